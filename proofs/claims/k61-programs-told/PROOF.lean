import PyProof.Rows.All
import Wide.All
import OpenK.AllK
import Wide.FinOn
import HandS.Words
import HandS.HeadHook4
import KE.KStateDown
import Lean
import HandS.Head0
import HandS.Head1
import HandS.Head2
import HandS.HeadEnd
import HandS.ForMost
import HandS.IsInst
import HandS.TupAny
import HandS.TupMul
import HandS.Zip
import HandS.Defaults
import HandS.Flow
import HandS.HeadHook1
import HandS.HeadHook2
import KE.KIsAll
import HandS.ClsMeth
import PyProof.LongRange
import HandS.RevRange
import HandS.Style
import PyProof.ReprReads
import PyProof.ReprRoads
import PyProof.ReprLen
import HandS.Codes
import PySem.Challenge.RW_pointrounds_k61_programs_told
set_option Elab.async false
set_option linter.all false
set_option maxRecDepth 100000
set_option maxHeartbeats 4000000
/-! the text by places, what is looked at behind the top -/
namespace H
open PySem PySem.Spec PyProof.Rows L2
def top (i : Nat) : Stmt := PySem.Challenge.pw_pointrounds_k61_programs_told.main.body.getD i (.Pass ⟨0, 0, 0, 0⟩)
abbrev s_own_words : Stmt := top 16
def d_own_words : He.DefD := ⟨("own_words", none), "own_words", "own_words", defArgs s_own_words, defBody s_own_words, defScope s_own_words, [], []⟩
abbrev s_is_whole : Stmt := top 17
def d_is_whole : He.DefD := ⟨("is_whole", none), "is_whole", "is_whole", defArgs s_is_whole, defBody s_is_whole, defScope s_is_whole, [], []⟩
abbrev s_is_within : Stmt := top 18
def d_is_within : He.DefD := ⟨("is_within", none), "is_within", "is_within", defArgs s_is_within, defBody s_is_within, defScope s_is_within, [], []⟩
abbrev s_are_all : Stmt := top 19
def d_are_all : He.DefD := ⟨("are_all", none), "are_all", "are_all", defArgs s_are_all, defBody s_are_all, defScope s_are_all, [], []⟩
abbrev s_is_name : Stmt := top 20
def d_is_name : He.DefD := ⟨("is_name", none), "is_name", "is_name", defArgs s_is_name, defBody s_is_name, defScope s_is_name, [], []⟩
abbrev s_need_box : Stmt := top 25
def d_need_box : He.DefD := ⟨("need_box", none), "need_box", "need_box", defArgs s_need_box, defBody s_need_box, defScope s_need_box, [], []⟩
abbrev s_boxed : Stmt := top 26
def d_boxed : He.DefD := ⟨("boxed", none), "boxed", "boxed", defArgs s_boxed, defBody s_boxed, defScope s_boxed, [], []⟩
abbrev s_need_frame : Stmt := top 28
def d_need_frame : He.DefD := ⟨("need_frame", none), "need_frame", "need_frame", defArgs s_need_frame, defBody s_need_frame, defScope s_need_frame, [], []⟩
abbrev s_need_whole : Stmt := top 30
def d_need_whole : He.DefD := ⟨("need_whole", none), "need_whole", "need_whole", defArgs s_need_whole, defBody s_need_whole, defScope s_need_whole, [], []⟩
abbrev s_need_by : Stmt := top 31
def d_need_by : He.DefD := ⟨("need_by", none), "need_by", "need_by", defArgs s_need_by, defBody s_need_by, defScope s_need_by, [], []⟩
abbrev s_greatest_part : Stmt := top 32
def d_greatest_part : He.DefD := ⟨("greatest_part", none), "greatest_part", "greatest_part", defArgs s_greatest_part, defBody s_greatest_part, defScope s_greatest_part, [], []⟩
abbrev s_least_part : Stmt := top 33
def d_least_part : He.DefD := ⟨("least_part", none), "least_part", "least_part", defArgs s_least_part, defBody s_least_part, defScope s_least_part, [], []⟩
abbrev s_common_of_two : Stmt := top 34
def d_common_of_two : He.DefD := ⟨("common_of_two", none), "common_of_two", "common_of_two", defArgs s_common_of_two, defBody s_common_of_two, defScope s_common_of_two, [], []⟩
abbrev s_common_part : Stmt := top 35
def d_common_part : He.DefD := ⟨("common_part", none), "common_part", "common_part", defArgs s_common_part, defBody s_common_part, defScope s_common_part, [], []⟩
abbrev s_least_alike : Stmt := top 36
def d_least_alike : He.DefD := ⟨("least_alike", none), "least_alike", "least_alike", defArgs s_least_alike, defBody s_least_alike, defScope s_least_alike, [], []⟩
abbrev s_many_alike : Stmt := top 37
def d_many_alike : He.DefD := ⟨("many_alike", none), "many_alike", "many_alike", defArgs s_many_alike, defBody s_many_alike, defScope s_many_alike, [], []⟩
abbrev s_are_wholes : Stmt := top 40
def d_are_wholes : He.DefD := ⟨("are_wholes", none), "are_wholes", "are_wholes", defArgs s_are_wholes, defBody s_are_wholes, defScope s_are_wholes, [], []⟩
abbrev s_is_sum : Stmt := top 41
def d_is_sum : He.DefD := ⟨("is_sum", none), "is_sum", "is_sum", defArgs s_is_sum, defBody s_is_sum, defScope s_is_sum, [], []⟩
abbrev s_need_sum : Stmt := top 42
def d_need_sum : He.DefD := ⟨("need_sum", none), "need_sum", "need_sum", defArgs s_need_sum, defBody s_need_sum, defScope s_need_sum, [], []⟩
abbrev s_need_worths : Stmt := top 43
def d_need_worths : He.DefD := ⟨("need_worths", none), "need_worths", "need_worths", defArgs s_need_worths, defBody s_need_worths, defScope s_need_worths, [], []⟩
abbrev s_worth_of : Stmt := top 44
def d_worth_of : He.DefD := ⟨("worth_of", none), "worth_of", "worth_of", defArgs s_worth_of, defBody s_worth_of, defScope s_worth_of, [], []⟩
abbrev s_is_of : Stmt := top 57
def d_is_of : He.DefD := ⟨("is_of", none), "is_of", "is_of", defArgs s_is_of, defBody s_is_of, defScope s_is_of, [], []⟩
abbrev s_is_pair : Stmt := top 58
def d_is_pair : He.DefD := ⟨("is_pair", none), "is_pair", "is_pair", defArgs s_is_pair, defBody s_is_pair, defScope s_is_pair, [], []⟩
abbrev s_is_test_wish : Stmt := top 59
def d_is_test_wish : He.DefD := ⟨("is_test_wish", none), "is_test_wish", "is_test_wish", defArgs s_is_test_wish, defBody s_is_test_wish, defScope s_is_test_wish, [], []⟩
abbrev s_are_groups : Stmt := top 60
def d_are_groups : He.DefD := ⟨("are_groups", none), "are_groups", "are_groups", defArgs s_are_groups, defBody s_are_groups, defScope s_are_groups, [], []⟩
abbrev s_is_step : Stmt := top 61
def d_is_step : He.DefD := ⟨("is_step", none), "is_step", "is_step", defArgs s_is_step, defBody s_is_step, defScope s_is_step, [], []⟩
abbrev s__law_cell : Stmt := top 65
def d__law_cell : He.DefD := ⟨("_law_cell", none), "_law_cell", "_law_cell", defArgs s__law_cell, defBody s__law_cell, defScope s__law_cell, [], []⟩
abbrev s__law_box : Stmt := top 66
def d__law_box : He.DefD := ⟨("_law_box", none), "_law_box", "_law_box", defArgs s__law_box, defBody s__law_box, defScope s__law_box, [], []⟩
abbrev s__law_take : Stmt := top 67
def d__law_take : He.DefD := ⟨("_law_take", none), "_law_take", "_law_take", defArgs s__law_take, defBody s__law_take, defScope s__law_take, [], []⟩
abbrev s__law_names : Stmt := top 68
def d__law_names : He.DefD := ⟨("_law_names", none), "_law_names", "_law_names", defArgs s__law_names, defBody s__law_names, defScope s__law_names, [], []⟩
abbrev s__law_small_boxed : Stmt := top 69
def d__law_small_boxed : He.DefD := ⟨("_law_small_boxed", none), "_law_small_boxed", "_law_small_boxed", defArgs s__law_small_boxed, defBody s__law_small_boxed, defScope s__law_small_boxed, [], []⟩
abbrev s__law_small_frame : Stmt := top 70
def d__law_small_frame : He.DefD := ⟨("_law_small_frame", none), "_law_small_frame", "_law_small_frame", defArgs s__law_small_frame, defBody s__law_small_frame, defScope s__law_small_frame, [], []⟩
abbrev s__law_sum : Stmt := top 71
def d__law_sum : He.DefD := ⟨("_law_sum", none), "_law_sum", "_law_sum", defArgs s__law_sum, defBody s__law_sum, defScope s__law_sum, [], []⟩
abbrev s__law_group : Stmt := top 72
def d__law_group : He.DefD := ⟨("_law_group", none), "_law_group", "_law_group", defArgs s__law_group, defBody s__law_group, defScope s__law_group, [], []⟩
abbrev s__law_groups : Stmt := top 73
def d__law_groups : He.DefD := ⟨("_law_groups", none), "_law_groups", "_law_groups", defArgs s__law_groups, defBody s__law_groups, defScope s__law_groups, [], []⟩
abbrev s__law_step : Stmt := top 74
def d__law_step : He.DefD := ⟨("_law_step", none), "_law_step", "_law_step", defArgs s__law_step, defBody s__law_step, defScope s__law_step, [], []⟩
abbrev s__law_wish : Stmt := top 75
def d__law_wish : He.DefD := ⟨("_law_wish", none), "_law_wish", "_law_wish", defArgs s__law_wish, defBody s__law_wish, defScope s__law_wish, [], []⟩
abbrev s__law_nodes : Stmt := top 76
def d__law_nodes : He.DefD := ⟨("_law_nodes", none), "_law_nodes", "_law_nodes", defArgs s__law_nodes, defBody s__law_nodes, defScope s__law_nodes, [], []⟩
abbrev s__law_size : Stmt := top 77
def d__law_size : He.DefD := ⟨("_law_size", none), "_law_size", "_law_size", defArgs s__law_size, defBody s__law_size, defScope s__law_size, [], []⟩
abbrev s__law_great : Stmt := top 78
def d__law_great : He.DefD := ⟨("_law_great", none), "_law_great", "_law_great", defArgs s__law_great, defBody s__law_great, defScope s__law_great, [], []⟩
abbrev s__law_right : Stmt := top 79
def d__law_right : He.DefD := ⟨("_law_right", none), "_law_right", "_law_right", defArgs s__law_right, defBody s__law_right, defScope s__law_right, [], []⟩
abbrev s_law : Stmt := top 80
def d_law : He.DefD := ⟨("law", none), "law", "law", defArgs s_law, defBody s_law, defScope s_law, [], []⟩
abbrev s_Frame___init__ : Stmt := inClass (top 27) 0
def d_Frame___init__ : He.DefD := ⟨("Frame", some "__init__"), "__init__", "Frame.__init__", defArgs s_Frame___init__, defBody s_Frame___init__, defScope s_Frame___init__, [.non], []⟩
abbrev s_Frame_all_boxed : Stmt := inClass (top 27) 1
def d_Frame_all_boxed : He.DefD := ⟨("Frame", some "all_boxed"), "all_boxed", "Frame.all_boxed", defArgs s_Frame_all_boxed, defBody s_Frame_all_boxed, defScope s_Frame_all_boxed, [], []⟩
abbrev s_Frame_marks : Stmt := inClass (top 27) 2
def d_Frame_marks : He.DefD := ⟨("Frame", some "marks"), "marks", "Frame.marks", defArgs s_Frame_marks, defBody s_Frame_marks, defScope s_Frame_marks, [], []⟩
abbrev s_Frame_numbers : Stmt := inClass (top 27) 3
def d_Frame_numbers : He.DefD := ⟨("Frame", some "numbers"), "numbers", "Frame.numbers", defArgs s_Frame_numbers, defBody s_Frame_numbers, defScope s_Frame_numbers, [], []⟩
abbrev s_Frame_names : Stmt := inClass (top 27) 4
def d_Frame_names : He.DefD := ⟨("Frame", some "names"), "names", "Frame.names", defArgs s_Frame_names, defBody s_Frame_names, defScope s_Frame_names, [], []⟩
abbrev s_Frame_place : Stmt := inClass (top 27) 5
def d_Frame_place : He.DefD := ⟨("Frame", some "place"), "place", "Frame.place", defArgs s_Frame_place, defBody s_Frame_place, defScope s_Frame_place, [], []⟩
abbrev s_Frame_box : Stmt := inClass (top 27) 6
def d_Frame_box : He.DefD := ⟨("Frame", some "box"), "box", "Frame.box", defArgs s_Frame_box, defBody s_Frame_box, defScope s_Frame_box, [], []⟩
abbrev s_Frame_size : Stmt := inClass (top 27) 7
def d_Frame_size : He.DefD := ⟨("Frame", some "size"), "size", "Frame.size", defArgs s_Frame_size, defBody s_Frame_size, defScope s_Frame_size, [], []⟩
abbrev s_Frame_sums_at : Stmt := inClass (top 27) 8
def d_Frame_sums_at : He.DefD := ⟨("Frame", some "sums_at"), "sums_at", "Frame.sums_at", defArgs s_Frame_sums_at, defBody s_Frame_sums_at, defScope s_Frame_sums_at, [], []⟩
abbrev s_Frame_mark_sums : Stmt := inClass (top 27) 9
def d_Frame_mark_sums : He.DefD := ⟨("Frame", some "mark_sums"), "mark_sums", "Frame.mark_sums", defArgs s_Frame_mark_sums, defBody s_Frame_mark_sums, defScope s_Frame_mark_sums, [], []⟩
abbrev s_Frame_number_sums : Stmt := inClass (top 27) 10
def d_Frame_number_sums : He.DefD := ⟨("Frame", some "number_sums"), "number_sums", "Frame.number_sums", defArgs s_Frame_number_sums, defBody s_Frame_number_sums, defScope s_Frame_number_sums, [], []⟩
abbrev s_Frame_is_point : Stmt := inClass (top 27) 11
def d_Frame_is_point : He.DefD := ⟨("Frame", some "is_point"), "is_point", "Frame.is_point", defArgs s_Frame_is_point, defBody s_Frame_is_point, defScope s_Frame_is_point, [], []⟩
abbrev s_Frame_is_worths : Stmt := inClass (top 27) 12
def d_Frame_is_worths : He.DefD := ⟨("Frame", some "is_worths"), "is_worths", "Frame.is_worths", defArgs s_Frame_is_worths, defBody s_Frame_is_worths, defScope s_Frame_is_worths, [], []⟩
abbrev s_Frame_told : Stmt := inClass (top 27) 13
def d_Frame_told : He.DefD := ⟨("Frame", some "told"), "told", "Frame.told", defArgs s_Frame_told, defBody s_Frame_told, defScope s_Frame_told, [], []⟩
abbrev s_Node___init__ : Stmt := inClass (top 53) 0
def d_Node___init__ : He.DefD := ⟨("Node", some "__init__"), "__init__", "Node.__init__", defArgs s_Node___init__, defBody s_Node___init__, defScope s_Node___init__, [], []⟩
abbrev s_Node_do_body : Stmt := inClass (top 53) 1
def d_Node_do_body : He.DefD := ⟨("Node", some "do_body"), "do_body", "Node.do_body", defArgs s_Node_do_body, defBody s_Node_do_body, defScope s_Node_do_body, [], []⟩
abbrev s_Node_count_body : Stmt := inClass (top 53) 2
def d_Node_count_body : He.DefD := ⟨("Node", some "count_body"), "count_body", "Node.count_body", defArgs s_Node_count_body, defBody s_Node_count_body, defScope s_Node_count_body, [], []⟩
abbrev s_Deed___init__ : Stmt := inClass (top 54) 0
def d_Deed___init__ : He.DefD := ⟨("Deed", some "__init__"), "__init__", "Deed.__init__", defArgs s_Deed___init__, defBody s_Deed___init__, defScope s_Deed___init__, [], []⟩
abbrev s_Deed_done : Stmt := inClass (top 54) 1
def d_Deed_done : He.DefD := ⟨("Deed", some "done"), "done", "Deed.done", defArgs s_Deed_done, defBody s_Deed_done, defScope s_Deed_done, [], []⟩
abbrev s_Deed_counted : Stmt := inClass (top 54) 2
def d_Deed_counted : He.DefD := ⟨("Deed", some "counted"), "counted", "Deed.counted", defArgs s_Deed_counted, defBody s_Deed_counted, defScope s_Deed_counted, [], []⟩
abbrev s_Deed_do_body : Stmt := inClass (top 53) 1
def d_Deed_do_body : He.DefD := ⟨("Deed", some "do_body"), "do_body", "Node.do_body", defArgs s_Deed_do_body, defBody s_Deed_do_body, defScope s_Deed_do_body, [], []⟩
abbrev s_Deed_count_body : Stmt := inClass (top 53) 2
def d_Deed_count_body : He.DefD := ⟨("Deed", some "count_body"), "count_body", "Node.count_body", defArgs s_Deed_count_body, defBody s_Deed_count_body, defScope s_Deed_count_body, [], []⟩
abbrev s_Test___init__ : Stmt := inClass (top 55) 0
def d_Test___init__ : He.DefD := ⟨("Test", some "__init__"), "__init__", "Test.__init__", defArgs s_Test___init__, defBody s_Test___init__, defScope s_Test___init__, [], []⟩
abbrev s_Test_holds_now : Stmt := inClass (top 55) 1
def d_Test_holds_now : He.DefD := ⟨("Test", some "holds_now"), "holds_now", "Test.holds_now", defArgs s_Test_holds_now, defBody s_Test_holds_now, defScope s_Test_holds_now, [], []⟩
abbrev s_Test_done : Stmt := inClass (top 55) 2
def d_Test_done : He.DefD := ⟨("Test", some "done"), "done", "Test.done", defArgs s_Test_done, defBody s_Test_done, defScope s_Test_done, [], []⟩
abbrev s_Test_counted : Stmt := inClass (top 55) 3
def d_Test_counted : He.DefD := ⟨("Test", some "counted"), "counted", "Test.counted", defArgs s_Test_counted, defBody s_Test_counted, defScope s_Test_counted, [], []⟩
abbrev s_Test_do_body : Stmt := inClass (top 53) 1
def d_Test_do_body : He.DefD := ⟨("Test", some "do_body"), "do_body", "Node.do_body", defArgs s_Test_do_body, defBody s_Test_do_body, defScope s_Test_do_body, [], []⟩
abbrev s_Test_count_body : Stmt := inClass (top 53) 2
def d_Test_count_body : He.DefD := ⟨("Test", some "count_body"), "count_body", "Node.count_body", defArgs s_Test_count_body, defBody s_Test_count_body, defScope s_Test_count_body, [], []⟩
abbrev s_Round___init__ : Stmt := inClass (top 56) 0
def d_Round___init__ : He.DefD := ⟨("Round", some "__init__"), "__init__", "Round.__init__", defArgs s_Round___init__, defBody s_Round___init__, defScope s_Round___init__, [], []⟩
abbrev s_Round_start : Stmt := inClass (top 56) 1
def d_Round_start : He.DefD := ⟨("Round", some "start"), "start", "Round.start", defArgs s_Round_start, defBody s_Round_start, defScope s_Round_start, [], []⟩
abbrev s_Round_end : Stmt := inClass (top 56) 2
def d_Round_end : He.DefD := ⟨("Round", some "end"), "end", "Round.end", defArgs s_Round_end, defBody s_Round_end, defScope s_Round_end, [], []⟩
abbrev s_Round_is_step : Stmt := inClass (top 56) 3
def d_Round_is_step : He.DefD := ⟨("Round", some "is_step"), "is_step", "Round.is_step", defArgs s_Round_is_step, defBody s_Round_is_step, defScope s_Round_is_step, [], []⟩
abbrev s_Round_through : Stmt := inClass (top 56) 4
def d_Round_through : He.DefD := ⟨("Round", some "through"), "through", "Round.through", defArgs s_Round_through, defBody s_Round_through, defScope s_Round_through, [], []⟩
abbrev s_Round_done : Stmt := inClass (top 56) 5
def d_Round_done : He.DefD := ⟨("Round", some "done"), "done", "Round.done", defArgs s_Round_done, defBody s_Round_done, defScope s_Round_done, [], []⟩
abbrev s_Round_counted : Stmt := inClass (top 56) 6
def d_Round_counted : He.DefD := ⟨("Round", some "counted"), "counted", "Round.counted", defArgs s_Round_counted, defBody s_Round_counted, defScope s_Round_counted, [], []⟩
abbrev s_Round_many_through : Stmt := inClass (top 56) 7
def d_Round_many_through : He.DefD := ⟨("Round", some "many_through"), "many_through", "Round.many_through", defArgs s_Round_many_through, defBody s_Round_many_through, defScope s_Round_many_through, [], []⟩
abbrev s_Round_do_body : Stmt := inClass (top 53) 1
def d_Round_do_body : He.DefD := ⟨("Round", some "do_body"), "do_body", "Node.do_body", defArgs s_Round_do_body, defBody s_Round_do_body, defScope s_Round_do_body, [], []⟩
abbrev s_Round_count_body : Stmt := inClass (top 53) 2
def d_Round_count_body : He.DefD := ⟨("Round", some "count_body"), "count_body", "Node.count_body", defArgs s_Round_count_body, defBody s_Round_count_body, defScope s_Round_count_body, [], []⟩
abbrev s_Builder___init__ : Stmt := inClass (top 62) 0
def d_Builder___init__ : He.DefD := ⟨("Builder", some "__init__"), "__init__", "Builder.__init__", defArgs s_Builder___init__, defBody s_Builder___init__, defScope s_Builder___init__, [], []⟩
abbrev s_Builder_body_of : Stmt := inClass (top 62) 1
def d_Builder_body_of : He.DefD := ⟨("Builder", some "body_of"), "body_of", "Builder.body_of", defArgs s_Builder_body_of, defBody s_Builder_body_of, defScope s_Builder_body_of, [], []⟩
abbrev s_Builder_node_of : Stmt := inClass (top 62) 2
def d_Builder_node_of : He.DefD := ⟨("Builder", some "node_of"), "node_of", "Builder.node_of", defArgs s_Builder_node_of, defBody s_Builder_node_of, defScope s_Builder_node_of, [], []⟩
abbrev s_Builder_is_deed : Stmt := inClass (top 62) 3
def d_Builder_is_deed : He.DefD := ⟨("Builder", some "is_deed"), "is_deed", "Builder.is_deed", defArgs s_Builder_is_deed, defBody s_Builder_is_deed, defScope s_Builder_is_deed, [], []⟩
abbrev s_Builder_is_test : Stmt := inClass (top 62) 4
def d_Builder_is_test : He.DefD := ⟨("Builder", some "is_test"), "is_test", "Builder.is_test", defArgs s_Builder_is_test, defBody s_Builder_is_test, defScope s_Builder_is_test, [], []⟩
abbrev s_Builder_is_round : Stmt := inClass (top 62) 5
def d_Builder_is_round : He.DefD := ⟨("Builder", some "is_round"), "is_round", "Builder.is_round", defArgs s_Builder_is_round, defBody s_Builder_is_round, defScope s_Builder_is_round, [], []⟩
abbrev s_Program___init__ : Stmt := inClass (top 63) 0
def d_Program___init__ : He.DefD := ⟨("Program", some "__init__"), "__init__", "Program.__init__", defArgs s_Program___init__, defBody s_Program___init__, defScope s_Program___init__, [], []⟩
abbrev s_Program_frame : Stmt := inClass (top 63) 1
def d_Program_frame : He.DefD := ⟨("Program", some "frame"), "frame", "Program.frame", defArgs s_Program_frame, defBody s_Program_frame, defScope s_Program_frame, [], []⟩
abbrev s_Program_parts : Stmt := inClass (top 63) 2
def d_Program_parts : He.DefD := ⟨("Program", some "parts"), "parts", "Program.parts", defArgs s_Program_parts, defBody s_Program_parts, defScope s_Program_parts, [], []⟩
abbrev s_Program_size : Stmt := inClass (top 63) 3
def d_Program_size : He.DefD := ⟨("Program", some "size"), "size", "Program.size", defArgs s_Program_size, defBody s_Program_size, defScope s_Program_size, [], []⟩
abbrev s_Program_told : Stmt := inClass (top 63) 4
def d_Program_told : He.DefD := ⟨("Program", some "told"), "told", "Program.told", defArgs s_Program_told, defBody s_Program_told, defScope s_Program_told, [], []⟩
def fn : List He.DefD := [d_own_words, d_is_whole, d_is_within, d_are_all, d_is_name, d_need_box, d_boxed, d_need_frame, d_need_whole, d_need_by, d_greatest_part, d_least_part, d_common_of_two, d_common_part, d_least_alike, d_many_alike, d_are_wholes, d_is_sum, d_need_sum, d_need_worths, d_worth_of, d_is_of, d_is_pair, d_is_test_wish, d_are_groups, d_is_step, d__law_cell, d__law_box, d__law_take, d__law_names, d__law_small_boxed, d__law_small_frame, d__law_sum, d__law_group, d__law_groups, d__law_step, d__law_wish, d__law_nodes, d__law_size, d__law_great, d__law_right, d_law, d_Frame___init__, d_Frame_all_boxed, d_Frame_marks, d_Frame_numbers, d_Frame_names, d_Frame_place, d_Frame_box, d_Frame_size, d_Frame_sums_at, d_Frame_mark_sums, d_Frame_number_sums, d_Frame_is_point, d_Frame_is_worths, d_Frame_told, d_Node___init__, d_Node_do_body, d_Node_count_body, d_Deed___init__, d_Deed_done, d_Deed_counted, d_Deed_do_body, d_Deed_count_body, d_Test___init__, d_Test_holds_now, d_Test_done, d_Test_counted, d_Test_do_body, d_Test_count_body, d_Round___init__, d_Round_start, d_Round_end, d_Round_is_step, d_Round_through, d_Round_done, d_Round_counted, d_Round_many_through, d_Round_do_body, d_Round_count_body, d_Builder___init__, d_Builder_body_of, d_Builder_node_of, d_Builder_is_deed, d_Builder_is_test, d_Builder_is_round, d_Program___init__, d_Program_frame, d_Program_parts, d_Program_size, d_Program_told]
def fa : List He.Fa := [.glo "_wall", .glo "PointError", .glo "NoName", .glo "NoNumber", .glo "Twice", .glo "NoBox", .glo "Unknown", .glo "NoFrame", .glo "NoSum", .glo "NoPoint", .glo "NoProgram", .glo "own_words", .glo "is_whole", .glo "is_within", .glo "are_all", .glo "is_name", .glo "need_box", .glo "boxed", .glo "Frame", .glo "need_frame", .glo "need_whole", .glo "need_by", .glo "greatest_part", .glo "least_part", .glo "common_of_two", .glo "common_part", .glo "least_alike", .glo "many_alike", .glo "are_wholes", .glo "is_sum", .glo "need_sum", .glo "need_worths", .glo "worth_of", .glo "Node", .glo "Deed", .glo "Test", .glo "Round", .glo "is_of", .glo "is_pair", .glo "is_test_wish", .glo "are_groups", .glo "is_step", .glo "Builder", .glo "Program", .glo "_law_cell", .glo "_law_box", .glo "_law_take", .glo "_law_names", .glo "_law_small_boxed", .glo "_law_small_frame", .glo "_law_sum", .glo "_law_group", .glo "_law_groups", .glo "_law_step", .glo "_law_wish", .glo "_law_nodes", .glo "_law_size", .glo "_law_great", .glo "_law_right", .glo "law", .str "LETTERS" "abcdefghijklmnopqrstuvwxyz", .int "LONGEST_NAME" 6, .str "OWN" "mark number wish test round deed from to step all and divides", .int "FAR" 99, .int "WIDE_MARK" 11, .int "WIDE_NUMBER" 5, .int "LONGEST" 11, .str "MOST" "most", .str "EVEN" "even", .int "GREATEST_BY" 5, .int "MOST_NODES" 250, .int "MOST_DEEP" 10, .int "MOST_THINGS" 60, .int "MOST_GROUPS" 20, .free "abs", .free "all", .free "bool", .free "divmod", .free "int", .free "isinstance", .free "len", .free "list", .free "max", .free "min", .free "range", .free "repr", .free "reversed", .free "str", .free "sum", .free "tuple", .free "zip", .cls "Frame", .noat "Frame" "boxed_marks", .noat "Frame" "boxed_numbers", .mkr "Frame", .meth "Frame" "__init__", .meth "Frame" "all_boxed", .meth "Frame" "marks", .meth "Frame" "numbers", .meth "Frame" "names", .meth "Frame" "place", .meth "Frame" "box", .meth "Frame" "size", .meth "Frame" "sums_at", .meth "Frame" "mark_sums", .meth "Frame" "number_sums", .meth "Frame" "is_point", .meth "Frame" "is_worths", .meth "Frame" "told", .cls "Node", .noat "Node" "body", .mkr "Node", .meth "Node" "__init__", .meth "Node" "do_body", .meth "Node" "count_body", .cls "Deed", .noat "Deed" "body", .noat "Deed" "word", .mkr "Deed", .meth "Deed" "__init__", .meth "Deed" "done", .meth "Deed" "counted", .meth "Deed" "do_body", .meth "Deed" "count_body", .cls "Test", .noat "Test" "body", .noat "Test" "tests", .mkr "Test", .meth "Test" "__init__", .meth "Test" "holds_now", .meth "Test" "done", .meth "Test" "counted", .meth "Test" "do_body", .meth "Test" "count_body", .cls "Round", .noat "Round" "body", .noat "Round" "high", .noat "Round" "highs", .noat "Round" "low", .noat "Round" "lows", .noat "Round" "spot", .noat "Round" "step", .mkr "Round", .meth "Round" "__init__", .meth "Round" "start", .meth "Round" "end", .meth "Round" "is_step", .meth "Round" "through", .meth "Round" "done", .meth "Round" "counted", .meth "Round" "many_through", .meth "Round" "do_body", .meth "Round" "count_body", .cls "Builder", .noat "Builder" "count", .noat "Builder" "home", .noat "Builder" "marks_told", .mkr "Builder", .meth "Builder" "__init__", .meth "Builder" "body_of", .meth "Builder" "node_of", .meth "Builder" "is_deed", .meth "Builder" "is_test", .meth "Builder" "is_round", .cls "Program", .noat "Program" "count", .noat "Program" "home", .noat "Program" "nodes", .noat "Program" "told_parts", .mkr "Program", .meth "Program" "__init__", .meth "Program" "frame", .meth "Program" "parts", .meth "Program" "size", .meth "Program" "told"]
/-- a pair of own classes: the first one's instances are the second's -/
def isiB (K : PySem.W.Frag) (q : Str × Str × Bool) : Bool := decide (PySem.W.kitOne K (.ref (He.ga K q.1)) (.ref (He.ga K q.2.1)) = some q.2.2)
def isiC (K : PySem.W.Frag) (x : Str) : Bool := decide (PySem.W.findIn K (.ref (He.ga K x)) "__class__" = some (some (.builtin "object.__class__"))) && (decide (PySem.W.specialIn K (.builtin "object.__class__") "__get__" = some (some (.builtin "getset_descriptor.__get__"))) && (decide (PySem.W.takesIn K (.builtin "object.__class__") = some true) && decide (PySem.W.mroIn K (He.ga K x) (.type "object") = some true)))
def isiP : List (Str × Str × Bool) := [(("Frame" : Str), ("Frame" : Str), true), (("Node" : Str), ("Node" : Str), true), (("Deed" : Str), ("Deed" : Str), true), (("Deed" : Str), ("Test" : Str), false), (("Deed" : Str), ("Round" : Str), false), (("Test" : Str), ("Deed" : Str), false), (("Test" : Str), ("Test" : Str), true), (("Test" : Str), ("Round" : Str), false), (("Round" : Str), ("Deed" : Str), false), (("Round" : Str), ("Test" : Str), false), (("Round" : Str), ("Round" : Str), true), (("Builder" : Str), ("Builder" : Str), true), (("Program" : Str), ("Program" : Str), true)]
def isiN : List Str := [("Frame" : Str), ("Node" : Str), ("Deed" : Str), ("Test" : Str), ("Round" : Str), ("Builder" : Str), ("Program" : Str)]
def cfnB (K : PySem.W.Frag) (q : Str × Str) : Bool := PySem.W.readsIn K (He.ga K q.1) (.type "type") && (decide (PySem.W.specialIn K (.ref (He.ga K q.1)) "__getattribute__" = some (some (.builtin "type.__getattribute__"))) && ((match PySem.W.findCls K (.ref (He.ga K q.1)) (.type "type") q.2 with
  | some (.val (.ref g)) => decide (g = He.ma K (He.ga K q.1) q.2)
  | _ => false) && PySem.W.keepIn K (.ref (He.ma K (He.ga K q.1) q.2))))
def btyB (K : PySem.W.Frag) (q : String × Str) : Bool := decide (PySem.W.kitOne K (.type q.1) (.ref (He.ga K q.2)) = some false)
def cfnP : List (Str × Str) := [(("Node" : Str), ("__init__" : Str))]
def btyP : List (String × Str) := []
def fxB (K : PySem.W.Frag) : Bool := isiP.all (isiB K) && (isiN.all (isiC K) && (cfnP.all (cfnB K) && btyP.all (btyB K)))
end H

set_option Elab.async false
set_option linter.all false
set_option maxRecDepth 100000
set_option maxHeartbeats 0
namespace H
open PySem PySem.Spec PyProof.Rows L2
def nm0 : List PySem.Str := ["_wall", "__name__", "PointError", "NoName", "NoNumber", "Twice", "NoBox", "Unknown", "NoFrame", "NoSum", "NoPoint", "NoProgram", "LETTERS", "LONGEST_NAME", "OWN", "own_words", "is_whole", "is_within", "are_all", "is_name", "FAR", "WIDE_MARK", "WIDE_NUMBER", "need_box", "boxed", "Frame", "need_frame", "need_whole", "need_by", "greatest_part"]
def nm1 : List PySem.Str := ["least_part", "common_of_two", "common_part", "least_alike", "many_alike", "LONGEST", "are_wholes", "is_sum", "need_sum", "need_worths", "worth_of", "MOST", "EVEN", "GREATEST_BY", "MOST_NODES", "MOST_DEEP", "MOST_THINGS", "MOST_GROUPS", "Node", "Deed", "Test", "Round", "is_of", "is_pair", "is_test_wish", "are_groups", "is_step", "Builder", "Program", "_law_cell"]
def nm2 : List PySem.Str := ["_law_box", "_law_take", "_law_names", "_law_small_boxed", "_law_small_frame", "_law_sum", "_law_group", "_law_groups", "_law_step", "_law_wish", "_law_nodes", "_law_size", "_law_great", "_law_right"]
def names : List PySem.Str := nm0 ++ nm1 ++ nm2
abbrev R : PySem.W.OpenRow := PySem.W.OpenLaw.row PySem.Challenge.rw_pointrounds_k61_programs_told
def lawAt : Nat := 80
/-- the written part: what stands at some addresses; looked at in parts, a run each -/
def ob1 (K : PySem.W.Frag) : Bool := (fa.all fun f => f.ok K) && fxB K
def ob2 (K : PySem.W.Frag) : Bool := (fn.take 40).all fun d => d.ok K
def ob4 (K : PySem.W.Frag) : Bool := (fn.drop 40).all fun d => d.ok K
def ob3 (K : PySem.W.Frag) : List He.FnW := fn.map fun d => He.fnW K d.at_
def vl3 : List He.FnW := fn.map He.DefD.val
abbrev AlF : Type := (Bool × Bool) × Bool × List He.FnW
def obsF (K : PySem.W.Frag) : AlF := ((ob1 K, ob2 K), (ob4 K, ob3 K))
def valF : AlF := ((true, true), (true, vl3))
/-- a hook of any look at the written part -/
def hkA {α : Type} (as : List Addr) (f : PySem.W.Frag → α) (v : α) : PySem.W.Hook where
  α := α
  obs := fun s => f (He.frG s.heap.get? as)
  val := fun _ => v
  says := fun _ h => ∃ K : PySem.W.Frag, K.In h ∧ f K = v
  of := fun _ _ e => ⟨_, He.frG_in, e⟩
  keeps := fun _ _ _ ⟨K, hK, c⟩ k => ⟨K, PySem.W.Frag.In.keeps hK k, c⟩
def obA {α : Type} (as : List Addr) (f : PySem.W.Frag → α) (s : PySem.W.SharedT) : α := f (He.frG (HandSHeadRun.getT s) as)
theorem obA_eq {α : Type} (as : List Addr) (f : PySem.W.Frag → α) (v : α) (s : PySem.W.SharedT) : obA as f s = (hkA as f v).obs s.abs := by
  have e : HandSHeadRun.getT s = s.abs.heap.get? := funext (HandSHeadRun.getT_eq s)
  unfold obA
  rw [e] <;> rfl
theorem run_both {α β : Type} {as : List Addr} {f : PySem.W.Frag → α} {g : PySem.W.Frag → β} {v : α} {u : β} {r : PySem.W.OpenRow} {q : Program} {M : Nat} {loose : List PySem.Str} {w : World} (h1 : HandSHeadRun.RunEq r q (hkA as f v) (obA as f) M loose w) (h2 : HandSHeadRun.RunEq r q (hkA as g u) (obA as g) M loose w) :
    HandSHeadRun.RunEq r q (hkA as (fun K => (f K, g K)) (v, u)) (obA as fun K => (f K, g K)) M loose w := by
  intro os
  have e1 := h1 os
  have e2 := h2 os
  cases e : HandSHeadRun.endF (HandSHeadRun.stepQ (HandSHeadRun.denQ HandSHeadRun.tabQ) r.prog w) M r.prog w os with
  | none =>
    rw [e] at e1
    cases e1
  | some s =>
    rw [e] at e1 e2
    simp only [Option.map_some, Option.some.injEq, Prod.mk.injEq] at e1 e2 ⊢
    obtain ⟨a1, a2, a3⟩ := e1
    obtain ⟨_, _, b3⟩ := e2
    refine ⟨a1, a2, ?_⟩
    show (obA as f s, obA as g s) = (v, u)
    rw [show obA as f s = v from a3, show obA as g s = u from b3]
/-- where one looks: the module's names, then what was made last -/
def ads : List Addr := 3 :: 2 :: ((List.range 1100).map (fun i => 1199 - i) ++ List.range 30)
theorem run1 (w : World) : HandSHeadRun.RunEq R (PySem.W.view R.prog [80]) (hkA ads ob1 true) (obA ads ob1) 20000 names w := by
  intro os
  kernel_rfl
theorem run2 (w : World) : HandSHeadRun.RunEq R (PySem.W.view R.prog [80]) (hkA ads ob2 true) (obA ads ob2) 20000 names w := by
  intro os
  kernel_rfl
theorem run3 (w : World) : HandSHeadRun.RunEq R (PySem.W.view R.prog [80]) (hkA ads ob3 vl3) (obA ads ob3) 20000 names w := by
  intro os
  kernel_rfl
theorem run4 (w : World) : HandSHeadRun.RunEq R (PySem.W.view R.prog [80]) (hkA ads ob4 true) (obA ads ob4) 20000 names w := by
  intro os
  kernel_rfl
theorem runAll (w : World) : HandSHeadRun.RunEq R (PySem.W.view R.prog [80]) (hkA ads obsF valF) (obA ads obsF) 20000 names w := run_both (run_both (run1 w) (run2 w)) (run_both (run4 w) (run3 w))
theorem says_of {K : PySem.W.Frag} (e : obsF K = valF) : He.obsD fa fn K = He.valD fn ∧ fxB K = true := by
  have e1 : ob1 K = true := congrArg (fun z : AlF => z.1.1) e
  have e2 : ob2 K = true := congrArg (fun z : AlF => z.1.2) e
  have e3 : ob3 K = vl3 := congrArg (fun z : AlF => z.2.2) e
  have e6 : ob4 K = true := congrArg (fun z : AlF => z.2.1) e
  obtain ⟨e4, e5⟩ := Bool.and_eq_true_iff.mp e1
  refine ⟨?_, e5⟩
  have e7 : (fn.all fun d => d.ok K) = true := by
    rw [← List.take_append_drop 40 fn, List.all_append]
    exact Bool.and_eq_true_iff.mpr ⟨e2, e6⟩
  show (((fa.all fun f => f.ok K) && fn.all fun d => d.ok K), ob3 K) = (true, vl3)
  rw [e4, e7, e3]
  rfl
end H

set_option Elab.async false
set_option linter.all false
set_option maxRecDepth 100000
set_option maxHeartbeats 4000000
/-! PR, part 1: data trees, the stable heap, memories, abstract slots. -/
namespace PR
open PySem PySem.Spec PyProof.Rows L2

/-- data: what a value stands for. lst: a list that nobody changes any more; ins: such an instance; obj: an object told elsewhere -/
inductive D where
  | non | bl (b : Bool) | int (i : Int) | str (s : Str) | ty (n : String)
  | tup (ds : List D) | lst (ds : List D) | ins (C : Addr) (fs : List (Str × D)) | obj (a : Addr) | scr (ns : List Int)

/-- a list that nobody changes -/
def SqF (_ : PySem.W.Frag) (H : Hp) (a : Addr) (xs : List V) : Prop := ∃ o, H a = some (.frz o (.lst xs))
theorem SqF.sq {K : PySem.W.Frag} {H : Hp} {a : Addr} {xs : List V} (h : SqF K H a xs) : SqL K H a xs := by
  obtain ⟨o, h⟩ := h
  exact .inl (.inr ⟨o, h⟩)

/-- a list that nobody changes, or a constant of the text -/
def SqS (K : PySem.W.Frag) (H : Hp) (a : Addr) (xs : List V) : Prop := (∃ o, H a = some (.frz o (.lst xs))) ∨
    ∃ (o : Obj) (its : Array Value) (n : Nat), K.lookup a = some o ∧ o.cls = .type "list" ∧ o.dict = none ∧ o.data = .seq its n ∧ its.size ≤ sizeLine ∧ Vals xs its.toList
theorem SqS.sq {K : PySem.W.Frag} {H : Hp} {a : Addr} {xs : List V} (h : SqS K H a xs) : SqL K H a xs := by
  rcases h with ⟨o, h⟩ | h
  · exact .inl (.inr ⟨o, h⟩)
  · exact .inr h
mutual
inductive Dz (K : PySem.W.Frag) (H : Hp) : V → D → Prop
  | non : Dz K H .non .non
  | bl (b : Bool) : Dz K H (.bl b) (.bl b)
  | int (i : Int) : Dz K H (.int i) (.int i)
  | str (s : Str) : Dz K H (.str s) (.str s)
  | ty (n : String) : Dz K H (.ty n) (.ty n)
  | obj (a : Addr) : Dz K H (.ref a) (.obj a)
  | scr {a : Addr} {ns : List Int} : SqS K H a (ns.map V.int) → Dz K H (.ref a) (.scr ns)
  | tup {a : Addr} {xs : List V} {ds : List D} : SqT K H a xs → DzA K H xs ds → Dz K H (.ref a) (.tup ds)
  | lst {a : Addr} {xs : List V} {ds : List D} : SqF K H a xs → DzA K H xs ds → Dz K H (.ref a) (.lst ds)
  | ins {a C dx : Addr} {o : Obj} {vs : List (Str × V)} {fs : List (Str × D)} : H a = some (.frz o (.ins C dx vs)) → DzF K H vs fs → Dz K H (.ref a) (.ins C fs)
inductive DzA (K : PySem.W.Frag) (H : Hp) : List V → List D → Prop
  | nil : DzA K H [] []
  | cons {v : V} {vs : List V} {d : D} {ds : List D} : Dz K H v d → DzA K H vs ds → DzA K H (v :: vs) (d :: ds)
inductive DzF (K : PySem.W.Frag) (H : Hp) : List (Str × V) → List (Str × D) → Prop
  | nil : DzF K H [] []
  | cons {x : Str} {v : V} {vs : List (Str × V)} {d : D} {ds : List (Str × D)} : Dz K H v d → DzF K H vs ds → DzF K H ((x, v) :: vs) ((x, d) :: ds)
end

/-- all that can't change stands -/
structure Sx (H H' : Hp) : Prop where
  tup : ∀ a xs, H a = some (.tup xs) → H' a = some (.tup xs)
  frz : ∀ a o u, H a = some (.frz o u) → H' a = some (.frz o u)
theorem Sx.refl (H : Hp) : Sx H H := ⟨fun _ _ h => h, fun _ _ _ h => h⟩
theorem Sx.trans {H H1 H2 : Hp} (a : Sx H H1) (b : Sx H1 H2) : Sx H H2 := ⟨fun x xs h => b.tup x xs (a.tup x xs h), fun x o u h => b.frz x o u (a.frz x o u h)⟩
theorem Sx.new {H : Hp} {p : Addr} {o : HO} (h : H p = none) : Sx H (upd H p o) :=
  ⟨fun a xs e => by rw [upd_ne (ne_of_none e h)]; exact e, fun a ob u e => by rw [upd_ne (ne_of_none e h)]; exact e⟩
/-- what is neither a tuple nor frozen may change -/
theorem Sx.put {H : Hp} {p : Addr} {u o : HO} (h : H p = some u) (m : Mut (some u)) : Sx H (upd H p o) :=
  ⟨fun a xs e => by rw [upd_ne (fun z => by rw [z, h] at e; cases e; exact m)]; exact e, fun a ob v e => by rw [upd_ne (fun z => by rw [z, h] at e; cases e; exact m)]; exact e⟩
section
variable {K : PySem.W.Frag} {H H' : Hp}
theorem Sx.sqt (e : Sx H H') {a : Addr} {xs : List V} (h : SqT K H a xs) : SqT K H' a xs := by
  rcases h with (h | ⟨o, h⟩) | h
  · exact .inl (.inl (e.tup _ _ h))
  · exact .inl (.inr ⟨o, e.frz _ _ _ h⟩)
  · exact .inr h
theorem Sx.sqf (e : Sx H H') {a : Addr} {xs : List V} (h : SqF K H a xs) : SqF K H' a xs := by
  obtain ⟨o, h⟩ := h
  exact ⟨o, e.frz _ _ _ h⟩
mutual
theorem Dz.mono (e : Sx H H') : ∀ {v : V} {d : D}, Dz K H v d → Dz K H' v d
  | _, _, .non => .non
  | _, _, .bl b => .bl b
  | _, _, .int i => .int i
  | _, _, .str s => .str s
  | _, _, .ty n => .ty n
  | _, _, .obj a => .obj a
  | _, _, .scr h => .scr (by
    rcases h with ⟨o, h⟩ | h
    · exact .inl ⟨o, e.frz _ _ _ h⟩
    · exact .inr h)
  | _, _, .tup h t => .tup (e.sqt h) (DzA.mono e t)
  | _, _, .lst h t => .lst (e.sqf h) (DzA.mono e t)
  | _, _, .ins h t => .ins (e.frz _ _ _ h) (DzF.mono e t)
theorem DzA.mono (e : Sx H H') : ∀ {v : List V} {d : List D}, DzA K H v d → DzA K H' v d
  | _, _, .nil => .nil
  | _, _, .cons h t => .cons (Dz.mono e h) (DzA.mono e t)
theorem DzF.mono (e : Sx H H') : ∀ {v : List (Str × V)} {d : List (Str × D)}, DzF K H v d → DzF K H' v d
  | _, _, .nil => .nil
  | _, _, .cons h t => .cons (Dz.mono e h) (DzF.mono e t)
end
theorem DzA.length {xs : List V} {ds : List D} (h : DzA K H xs ds) : xs.length = ds.length := by
  induction ds generalizing xs with
  | nil => cases h; rfl
  | cons d ds ih =>
    cases h with
    | cons _ t => simp [ih t]
theorem DzA.at_ : ∀ {xs : List V} {ds : List D} {i : Nat} {d : D}, DzA K H xs ds → ds[i]? = some d → ∃ v, xs[i]? = some v ∧ Dz K H v d
  | _, _, _, _, .nil, e => by simp at e
  | _, _, 0, _, .cons h _, e => by
    simp at e
    subst e
    exact ⟨_, rfl, h⟩
  | _, _, i + 1, _, .cons _ t, e => by
    obtain ⟨v, e1, h1⟩ := DzA.at_ (i := i) t (by simpa using e)
    exact ⟨v, by simpa using e1, h1⟩
theorem DzA.of_at : ∀ {xs : List V} {ds : List D} {i : Nat} {v : V}, DzA K H xs ds → xs[i]? = some v → ∃ d, ds[i]? = some d ∧ Dz K H v d
  | _, _, _, _, .nil, e => by simp at e
  | _, _, 0, _, .cons h _, e => by
    simp at e
    subst e
    exact ⟨_, rfl, h⟩
  | _, _, i + 1, _, .cons _ t, e => by
    obtain ⟨v, e1, h1⟩ := DzA.of_at (i := i) t (by simpa using e)
    exact ⟨v, by simpa using e1, h1⟩
theorem DzA.app : ∀ {xs ys : List V} {ds es : List D}, DzA K H xs ds → DzA K H ys es → DzA K H (xs ++ ys) (ds ++ es)
  | _, _, _, _, .nil, h => h
  | _, _, _, _, .cons a t, h => .cons a (DzA.app t h)
theorem DzA.one {v : V} {d : D} (h : Dz K H v d) : DzA K H [v] [d] := .cons h .nil
theorem DzA.take : ∀ {xs : List V} {ds : List D} (n : Nat), DzA K H xs ds → DzA K H (xs.take n) (ds.take n)
  | _, _, 0, _ => by simp; exact .nil
  | _, _, _ + 1, .nil => .nil
  | _, _, n + 1, .cons a t => by simp; exact .cons a (DzA.take n t)
theorem DzA.drop : ∀ {xs : List V} {ds : List D} (n : Nat), DzA K H xs ds → DzA K H (xs.drop n) (ds.drop n)
  | _, _, 0, h => h
  | _, _, _ + 1, .nil => .nil
  | _, _, n + 1, .cons a t => DzA.drop n t
theorem DzA.rep {xs : List V} {ds : List D} (h : DzA K H xs ds) : ∀ n : Nat, DzA K H (List.replicate n xs).flatten (List.replicate n ds).flatten
  | 0 => .nil
  | n + 1 => by
    simp only [List.replicate_succ, List.flatten_cons]
    exact h.app (DzA.rep h n)
theorem DzA.set : ∀ {xs : List V} {ds : List D} {v : V} {d : D} (i : Nat), DzA K H xs ds → Dz K H v d → DzA K H (xs.set i v) (ds.set i d)
  | _, _, _, _, _, .nil, _ => .nil
  | _, _, _, _, 0, .cons _ t, h => .cons h t
  | _, _, _, _, i + 1, .cons a t, h => .cons a (DzA.set i t h)
theorem DzA.rev {xs : List V} {ds : List D} (h : DzA K H xs ds) : DzA K H xs.reverse ds.reverse := by
  induction ds generalizing xs with
  | nil => cases h; exact .nil
  | cons d ds ih =>
    cases h with
    | cons a t => simp only [List.reverse_cons]; exact (ih t).app (.one a)
theorem DzA.ints {xs : List V} {ns : List Int} (h : DzA K H xs (ns.map D.int)) : xs = ns.map V.int := by
  induction ns generalizing xs with
  | nil => cases h; rfl
  | cons n ns ih =>
    cases h with
    | cons a t =>
      cases a
      rw [ih t]
      rfl
theorem DzA.of_ints : ∀ ns : List Int, DzA K H (ns.map V.int) (ns.map D.int)
  | [] => .nil
  | _ :: r => .cons (.int _) (DzA.of_ints r)
theorem DzA.strs {xs : List V} {ns : List Str} (h : DzA K H xs (ns.map D.str)) : xs = ns.map V.str := by
  induction ns generalizing xs with
  | nil => cases h; rfl
  | cons n ns ih =>
    cases h with
    | cons a t =>
      cases a
      rw [ih t]
      rfl
theorem DzA.of_strs : ∀ ns : List Str, DzA K H (ns.map V.str) (ns.map D.str)
  | [] => .nil
  | _ :: r => .cons (.str _) (DzA.of_strs r)
theorem DzA.bls {xs : List V} {ns : List Bool} (h : DzA K H xs (ns.map D.bl)) : xs = ns.map V.bl := by
  induction ns generalizing xs with
  | nil => cases h; rfl
  | cons n ns ih =>
    cases h with
    | cons a t =>
      cases a
      rw [ih t]
      rfl
theorem DzF.look : ∀ {vs : List (Str × V)} {fs : List (Str × D)} {f : Str} {d : D}, DzF K H vs fs → fs.lookup f = some d → ∃ v, vs.lookup f = some v ∧ Dz K H v d
  | _, _, _, _, .nil, e => by simp at e
  | _, _, f, d, .cons (x := x) (v := v) (vs := vs) (d := d') (ds := ds) h t, e => by
    by_cases hx : (f == x) = true
    · have ex : List.lookup f ((x, d') :: ds) = some d' := by simp only [List.lookup, hx]
      have ev : List.lookup f ((x, v) :: vs) = some v := by simp only [List.lookup, hx]
      rw [ex] at e
      cases e
      exact ⟨v, ev, h⟩
    · have hx' : (f == x) = false := by cases hq : (f == x) with | true => exact absurd hq hx | false => rfl
      have ex : List.lookup f ((x, d') :: ds) = List.lookup f ds := by simp only [List.lookup, hx']
      have ev : List.lookup f ((x, v) :: vs) = List.lookup f vs := by simp only [List.lookup, hx']
      rw [ex] at e
      rw [ev]
      exact DzF.look t e
theorem DzF.none_ : ∀ {vs : List (Str × V)} {fs : List (Str × D)} {f : Str}, DzF K H vs fs → fs.lookup f = none → vs.lookup f = none
  | _, _, _, .nil, _ => rfl
  | _, _, f, .cons (x := x) (v := v) (vs := vs) (d := d') (ds := ds) h t, e => by
    by_cases hx : (f == x) = true
    · have ex : List.lookup f ((x, d') :: ds) = some d' := by simp only [List.lookup, hx]
      rw [ex] at e
      cases e
    · have hx' : (f == x) = false := by cases hq : (f == x) with | true => exact absurd hq hx | false => rfl
      have ex : List.lookup f ((x, d') :: ds) = List.lookup f ds := by simp only [List.lookup, hx']
      have ev : List.lookup f ((x, v) :: vs) = List.lookup f vs := by simp only [List.lookup, hx']
      rw [ex] at e
      rw [ev]
      exact DzF.none_ t e
theorem DzF.length {vs : List (Str × V)} {fs : List (Str × D)} (h : DzF K H vs fs) : vs.length = fs.length := by
  induction fs generalizing vs with
  | nil => cases h; rfl
  | cons d ds ih =>
    cases h with
    | cons _ t => simp [ih t]
end
/-- a field stored -/
def putD (f : Str) (d : D) : List (Str × D) → List (Str × D)
  | [] => [(f, d)]
  | (g, x) :: r => if g = f then (g, d) :: r else (g, x) :: putD f d r
theorem DzF.put {K : PySem.W.Frag} {H : Hp} {f : Str} {v : V} {d : D} (h : Dz K H v d) : ∀ {vs : List (Str × V)} {fs : List (Str × D)}, DzF K H vs fs → DzF K H (putF f v vs) (putD f d fs)
  | _, _, .nil => by
    show DzF K H [(f, v)] [(f, d)]
    exact .cons h .nil
  | _, _, .cons (x := x) (v := v') (vs := vs) (d := d') (ds := ds) a t => by
    show DzF K H (if x = f then (x, v) :: vs else (x, v') :: putF f v vs) (if x = f then (x, d) :: ds else (x, d') :: putD f d ds)
    by_cases hx : x = f
    · rw [if_pos hx, if_pos hx]
      exact .cons h t
    · rw [if_neg hx, if_neg hx]
      exact .cons a (DzF.put h t)

/-! ### memories: what may change -/
inductive MO where
  | lst (ds : List D) | ins (C : Addr) (fs : List (Str × D))
abbrev Mem := Addr → Option MO
def Mem.put (M : Mem) (a : Addr) (o : MO) : Mem := fun b => if b = a then some o else M b
theorem put_same {M : Mem} {a : Addr} {o : MO} : M.put a o a = some o := by unfold Mem.put; rw [if_pos rfl]
theorem put_ne {M : Mem} {a b : Addr} {o : MO} (h : b ≠ a) : M.put a o b = M b := by unfold Mem.put; rw [if_neg h]
theorem put_put {M : Mem} {a : Addr} {o u : MO} : (M.put a o).put a u = M.put a u := by
  funext b
  unfold Mem.put
  split <;> rfl
theorem put_comm {M : Mem} {a b : Addr} {o u : MO} (h : a ≠ b) : (M.put a o).put b u = (M.put b u).put a o := by
  funext c
  unfold Mem.put
  by_cases h1 : c = b
  · rw [if_pos h1, if_neg (fun z => h (by rw [← z, h1])), if_pos h1]
  · rw [if_neg h1]
    by_cases h2 : c = a
    · rw [if_pos h2, if_pos h2]
    · rw [if_neg h2, if_neg h2, if_neg h1]
theorem put_id {M : Mem} {a : Addr} {o : MO} (h : M a = some o) : M.put a o = M := by
  funext b
  unfold Mem.put
  split
  · rename_i e
    rw [e, h]
  · rfl
/-- all that the one tells the other tells, too -/
def Mem.Le (M N : Mem) : Prop := ∀ a o, M a = some o → N a = some o
theorem Mem.Le.refl (M : Mem) : Mem.Le M M := fun _ _ h => h
theorem Mem.Le.trans {M N L : Mem} (a : Mem.Le M N) (b : Mem.Le N L) : Mem.Le M L := fun x o h => b x o (a x o h)
theorem Mem.Le.put {M N : Mem} {a : Addr} {o : MO} (h : Mem.Le M N) (hn : M a = none) : Mem.Le M (N.put a o) := fun x u e => by
  rw [put_ne (fun z => by rw [z, hn] at e; cases e)]
  exact h x u e
theorem Mem.Le.both {M N : Mem} {a : Addr} {o : MO} (h : Mem.Le M N) : Mem.Le (M.put a o) (N.put a o) := fun x u e => by
  by_cases hx : x = a
  · rw [hx, put_same] at e
    rw [hx, put_same]
    exact e
  · rw [put_ne hx] at e
    rw [put_ne hx]
    exact h x u e
def OkM (K : PySem.W.Frag) (H : Hp) (a : Addr) : MO → Prop
  | .lst ds => ∃ xs, H a = some (.lst xs) ∧ DzA K H xs ds
  | .ins C fs => ∃ dx vs, H a = some (.ins C dx vs) ∧ DzF K H vs fs
def Has (K : PySem.W.Frag) (H : Hp) (M : Mem) : Prop := ∀ a o, M a = some o → OkM K H a o
section
variable {K : PySem.W.Frag} {H H' : Hp} {M : Mem}
theorem OkM.some {a : Addr} {o : MO} (h : OkM K H a o) : ∃ u, H a = Option.some u ∧ Mut (Option.some u) := by
  cases o with
  | lst ds => obtain ⟨xs, e, _⟩ := h; exact ⟨_, e, True.intro⟩
  | ins C fs => obtain ⟨dx, vs, e, _⟩ := h; exact ⟨_, e, True.intro⟩
theorem Has.none {a : Addr} (h : Has K H M) (e : H a = Option.none) : M a = Option.none := by
  cases q : M a with
  | none => rfl
  | some o =>
    obtain ⟨u, e1, _⟩ := (h a o q).some
    rw [e] at e1
    cases e1
theorem Has.le {N : Mem} (h : Has K H M) (e : Mem.Le N M) : Has K H N := fun a o q => h a o (e a o q)
theorem OkM.stay {a : Addr} {o : MO} (h : OkM K H a o) (e : Sx H H') (k : ∀ u, H a = Option.some u → H' a = Option.some u) : OkM K H' a o := by
  cases o with
  | lst ds => obtain ⟨xs, q, t⟩ := h; exact ⟨xs, k _ q, t.mono e⟩
  | ins C fs => obtain ⟨dx, vs, q, t⟩ := h; exact ⟨dx, vs, k _ q, t.mono e⟩
theorem Has.new {p : Addr} {o : HO} (h : Has K H M) (hp : H p = Option.none) : Has K (upd H p o) M := fun a m q => by
  refine (h a m q).stay (Sx.new hp) fun u e => ?_
  rw [upd_ne (ne_of_none e hp)]
  exact e
theorem Has.put {p : Addr} {o : HO} {m : MO} (h : Has K H M) (hs : Sx H (upd H p o)) (hm : OkM K (upd H p o) p m) : Has K (upd H p o) (M.put p m) := fun a n q => by
  by_cases e : a = p
  · rw [e, put_same] at q
    cases q
    rw [e]
    exact hm
  · rw [put_ne e] at q
    refine (h a n q).stay hs fun u z => ?_
    rw [upd_ne e]
    exact z
/-- one that changes without being told -/
theorem Has.drop {p : Addr} {o : HO} (h : Has K H M) (hs : Sx H (upd H p o)) (hn : M p = Option.none) : Has K (upd H p o) M := fun a n q => by
  have e : a ≠ p := fun z => by rw [z, hn] at q; cases q
  refine (h a n q).stay hs fun u z => ?_
  rw [upd_ne e]
  exact z
end

/-! ### slots -/
abbrev Gm := List (Option D)
structure Lo (K : PySem.W.Frag) (H : Hp) (σ : L2.St) (Γ : Gm) : Prop where
  len : σ.length = Γ.length
  at_ : ∀ (i : Nat) (d : D), Γ[i]? = some (some d) → ∃ v, σ[i]? = some (some v) ∧ Dz K H v d
section
variable {K : PySem.W.Frag} {H H' : Hp} {σ : L2.St} {Γ : Gm}
theorem Lo.mono (h : Lo K H σ Γ) (e : Sx H H') : Lo K H' σ Γ := ⟨h.len, fun i d q => by
  obtain ⟨v, a, b⟩ := h.at_ i d q
  exact ⟨v, a, b.mono e⟩⟩
theorem Lo.set {i : Nat} {v : V} {d : D} (h : Lo K H σ Γ) (z : Dz K H v d) : Lo K H (σ.set i (some v)) (Γ.set i (some d)) := by
  refine ⟨by simp [h.len], fun j e q => ?_⟩
  by_cases hj : i = j
  · subst hj
    rw [List.getElem?_set] at q
    simp only [if_true] at q
    split at q
    · rename_i hl
      cases q
      exact ⟨v, by rw [List.getElem?_set_self (by rw [h.len]; exact hl)], z⟩
    · cases q
  · rw [List.getElem?_set_ne hj] at q
    obtain ⟨u, a, b⟩ := h.at_ j e q
    exact ⟨u, by rw [List.getElem?_set_ne hj]; exact a, b⟩
def wipeG (Γ : Gm) : List Nat → Gm
  | [] => Γ
  | v :: vs => (wipeG Γ vs).set v none
theorem Lo.unset {i : Nat} (h : Lo K H σ Γ) : Lo K H (σ.set i none) (Γ.set i none) := by
  refine ⟨by simp [h.len], fun j e q => ?_⟩
  by_cases hj : i = j
  · subst hj
    rw [List.getElem?_set] at q
    simp only [if_true] at q
    split at q
    · cases q
    · cases q
  · rw [List.getElem?_set_ne hj] at q
    obtain ⟨u, a, b⟩ := h.at_ j e q
    exact ⟨u, by rw [List.getElem?_set_ne hj]; exact a, b⟩
theorem Lo.wipe (h : Lo K H σ Γ) : ∀ vs : List Nat, Lo K H (L2.wipe σ vs) (wipeG Γ vs)
  | [] => h
  | v :: vs => (Lo.wipe h vs).unset
/-- the slots at a def's entry -/
theorem lo_start {N : List Str} {vs : List V} {ds : List D} (h : DzA K H vs ds) (hl : ds.length ≤ N.length) : Lo K H (L2.start N vs) (ds.map some ++ List.replicate (N.length - ds.length) none) := by
  have e := h.length
  unfold L2.start
  rw [e]
  refine ⟨by simp [e], fun i d q => ?_⟩
  by_cases hi : i < ds.length
  · rw [List.getElem?_append_left (by simpa using hi), List.getElem?_map] at q
    obtain ⟨d', q1, q2⟩ := Option.map_eq_some_iff.mp q
    cases q2
    obtain ⟨v, a, b⟩ := h.at_ q1
    exact ⟨v, by rw [List.getElem?_append_left (by simpa [e] using hi), List.getElem?_map, a]; rfl, b⟩
  · rw [List.getElem?_append_right (by simpa using hi), List.getElem?_replicate] at q
    split at q <;> simp at q
end
end PR

set_option Elab.async false
set_option linter.all false
set_option maxRecDepth 100000
set_option maxHeartbeats 4000000
/-! PR, part 2: expressions. -/
namespace PR
open PySem PySem.Spec PyProof.Rows L2

theorem pe_imp {X : Cx} {e : Expr} {t t' : TE} (h : PE X e t) (k : ∀ σ H Q, t' σ H Q → t σ H Q) : PE X e t' := ⟨fun pins s σ H Q I q => h.run pins s σ H Q I (k σ H Q q)⟩
theorem pt_imp {X : Cx} {e : Expr} {t t' : TT} (h : PT X e t) (k : ∀ σ H Q, t' σ H Q → t σ H Q) : PT X e t' := ⟨fun pins s σ H Q I q => h.run pins s σ H Q I (k σ H Q q)⟩
theorem pw_imp {X : Cx} {e : Expr} {t t' : TT} (h : PW X e t) (k : ∀ σ H Q, t' σ H Q → t σ H Q) : PW X e t' := ⟨fun wh pins s σ H Q I q => h.run wh pins s σ H Q I (k σ H Q q)⟩
theorem pa_imp {X : Cx} {e : List Expr} {t t' : TA} (h : PA X e t) (k : ∀ σ H Q, t' σ H Q → t σ H Q) : PA X e t' := ⟨fun pos pins s σ H Q I q => h.run pos pins s σ H Q I (k σ H Q q)⟩
theorem ps_imp {X : Cx} {e : Stmt} {t t' : TS} (h : PS X e t) (k : ∀ D σ H, t' D σ H → t D σ H) : PS X e t' := ⟨fun pins s σ H D I q => h.run pins s σ H D I (k D σ H q)⟩
theorem pss_imp {X : Cx} {e : List Stmt} {t t' : TS} (h : PSs X e t) (k : ∀ D σ H, t' D σ H → t D σ H) : PSs X e t' := ⟨fun pins s σ H D I q => h.run pins s σ H D I (k D σ H q)⟩
/-- what can't be reached -/
theorem pe_no {X : Cx} {e : Expr} : PE X e (fun _ _ _ => False) := ⟨fun _ _ _ _ _ _ h => h.elim⟩
theorem pt_no {X : Cx} {e : Expr} : PT X e (fun _ _ _ => False) := ⟨fun _ _ _ _ _ _ h => h.elim⟩
theorem pw_no {X : Cx} {e : Expr} : PW X e (fun _ _ _ => False) := ⟨fun _ _ _ _ _ _ _ h => h.elim⟩
theorem ps_no {X : Cx} {e : Stmt} : PS X e (fun _ _ _ => False) := ⟨fun _ _ _ _ _ _ h => h.elim⟩
theorem pss_no {X : Cx} {e : List Stmt} : PSs X e (fun _ _ _ => False) := ⟨fun _ _ _ _ _ _ h => h.elim⟩

/-- the readings by data -/
def tD (K : PySem.W.Frag) (Γ : Gm) (M : Mem) (d : D) (M' : Mem) : TE := fun σ H Q => Lo K H σ Γ ∧ Has K H M ∧ ∀ v H', Sx H H' → Has K H' M' → Dz K H' v d → Q v H'
def tP (K : PySem.W.Frag) (Γ : Gm) (M : Mem) (P : D → Mem → Prop) : TE := fun σ H Q => Lo K H σ Γ ∧ Has K H M ∧ ∀ v H' d M', Sx H H' → Has K H' M' → Dz K H' v d → P d M' → Q v H'
/-- a new list that may change -/
def tN (K : PySem.W.Frag) (Γ : Gm) (M : Mem) (ds : List D) (M' : Mem) : TE := fun σ H Q => Lo K H σ Γ ∧ Has K H M ∧ ∀ p H' xs, Sx H H' → Has K H' M' → M' p = none → H' p = some (.lst xs) → DzA K H' xs ds → Q (.ref p) H'
def tT (K : PySem.W.Frag) (Γ : Gm) (M : Mem) (b : Bool) (M' : Mem) : TT := fun σ H Q => Lo K H σ Γ ∧ Has K H M ∧ ∀ H', Sx H H' → Has K H' M' → Q b H'
def tA (K : PySem.W.Frag) (Γ : Gm) (M : Mem) (ds : List D) (M' : Mem) : TA := fun σ H Q => Lo K H σ Γ ∧ Has K H M ∧ ∀ vs H', Sx H H' → Has K H' M' → DzA K H' vs ds → Q vs H'
abbrev Ev (X : Cx) (Γ : Gm) (M : Mem) (e : Expr) (d : D) (M' : Mem) : Prop := PE X e (tD X.K Γ M d M')
abbrev EvP (X : Cx) (Γ : Gm) (M : Mem) (e : Expr) (P : D → Mem → Prop) : Prop := PE X e (tP X.K Γ M P)
abbrev EvN (X : Cx) (Γ : Gm) (M : Mem) (e : Expr) (ds : List D) (M' : Mem) : Prop := PE X e (tN X.K Γ M ds M')
abbrev EvT (X : Cx) (Γ : Gm) (M : Mem) (e : Expr) (b : Bool) (M' : Mem) : Prop := PT X e (tT X.K Γ M b M')
abbrev EvW (X : Cx) (Γ : Gm) (M : Mem) (e : Expr) (b : Bool) (M' : Mem) : Prop := PW X e (tT X.K Γ M b M')
abbrev EvA (X : Cx) (Γ : Gm) (M : Mem) (es : List Expr) (ds : List D) (M' : Mem) : Prop := PA X es (tA X.K Γ M ds M')

section
variable {X : Cx} {Γ : Gm} {M M1 M2 M3 : Mem} {a b e o : Expr} {es : List Expr} {x y z d : D} {ds : List D} {pos : Pos}
theorem ev_is {d' : D} {M' : Mem} (h : Ev X Γ M e d M1) (e1 : d = d') (e2 : M1 = M' := by rfl) : Ev X Γ M e d' M' := by
  subst e1 e2
  exact h
theorem evt_is {p q : Bool} {M' : Mem} (h : EvT X Γ M e p M1) (e1 : p = q) (e2 : M1 = M' := by rfl) : EvT X Γ M e q M' := by
  subst e1 e2
  exact h
theorem eva_is {ds' : List D} (h : EvA X Γ M es ds M1) (e1 : ds = ds') : EvA X Γ M es ds' M1 := by
  subst e1
  exact h
theorem ev_p {P : D → Mem → Prop} (h : Ev X Γ M e d M1) (hp : P d M1) : EvP X Γ M e P :=
  pe_imp h fun σ H Q ⟨lo, hm, q⟩ => ⟨lo, hm, fun v H1 s1 m1 z1 => q v H1 d M1 s1 m1 z1 hp⟩

/-! ### names, constants -/
theorem e_v (i : Nat) {n : Str} (hx : Γ[i]? = some (some d)) (hN : X.N[i]? = some n := by rfl) (hv : Vis X.env.scope n := by first | exact Or.inl rfl | exact Or.inr (Or.inl rfl) | exact Or.inr (Or.inr rfl)) (hd : (n == ("__debug__" : Str)) = false := by decide)
    (hcd : (n == ("__classdict__" : Str)) = false := by decide) : Ev X Γ M (.Name n pos) d M :=
  pe_imp (pe_var hN hv hd hcd) fun σ H Q ⟨lo, hm, q⟩ => by
    obtain ⟨v, h1, h2⟩ := lo.at_ i d hx
    exact ⟨v, h1, q v H (Sx.refl H) hm h2⟩
theorem e_int {i : Int} {j} : Ev X Γ M (.Constant (.int i) j pos) (.int i) M := pe_imp pe_int fun _ H _ ⟨_, hm, q⟩ => q _ H (Sx.refl H) hm (.int i)
theorem e_bl {i : Bool} {j} : Ev X Γ M (.Constant (.bool i) j pos) (.bl i) M := pe_imp pe_bl fun _ H _ ⟨_, hm, q⟩ => q _ H (Sx.refl H) hm (.bl i)
theorem e_non {j} : Ev X Γ M (.Constant .none j pos) .non M := pe_imp pe_non fun _ H _ ⟨_, hm, q⟩ => q _ H (Sx.refl H) hm .non
theorem e_str {i : Str} {j} : Ev X Γ M (.Constant (.str i) j pos) (.str i) M := pe_imp pe_str fun _ H _ ⟨_, hm, q⟩ => q _ H (Sx.refl H) hm (.str i)
theorem e_gl {n : Str} {v : V} {u : Value} (hm : X.mg n = some u) (r : RelV v u) (dz : ∀ H, Dz X.K H v d) (hg : Gl X n := by rfl) (hd : (n == ("__debug__" : Str)) = false := by decide) : Ev X Γ M (.Name n pos) d M :=
  pe_imp (pe_glob hg hm r hd) fun _ H _ ⟨_, hM, q⟩ => q _ H (Sx.refl H) hM (dz H)
theorem e_gi {n : Str} {i : Int} {t : Tok} (hm : X.mg n = some (.int i t)) (hg : Gl X n := by rfl) (hd : (n == ("__debug__" : Str)) = false := by decide) : Ev X Γ M (.Name n pos) (.int i) M := e_gl (v := .int i) hm ⟨t, rfl⟩ (fun _ => .int i) hg hd
theorem e_gs {n : Str} {i : Str} {t : Tok} (hm : X.mg n = some (.str i t)) (hg : Gl X n := by rfl) (hd : (n == ("__debug__" : Str)) = false := by decide) : Ev X Γ M (.Name n pos) (.str i) M := e_gl (v := .str i) hm ⟨t, rfl⟩ (fun _ => .str i) hg hd
theorem e_ty {n : Str} {T : String} (hm : X.mg n = none) (hv : bootBuiltins n = some (.type T)) (hg : Gl X n := by rfl) (hn : n ≠ "__name__" := by decide) (hd : (n == ("__debug__" : Str)) = false := by decide) : Ev X Γ M (.Name n pos) (.ty T) M :=
  pe_imp (pe_bltn (v := .ty T) hg hm hv rfl hn hd) fun _ H _ ⟨_, hM, q⟩ => q _ H (Sx.refl H) hM (.ty T)

/-! ### operators -/
/-- what an operation on values does to data -/
def RvD (K : PySem.W.Frag) (r : R2) (x y z : D) : Prop := ∀ (H : Hp) (M : Mem) (u v : V), Dz K H u x → Dz K H v y → Has K H M → ∀ Q : VK, (∀ w H', Sx H H' → Has K H' M → Dz K H' w z → Q w H') → r u v H Q
theorem e_op {op : Operator} {r : R2} (ho : OpR X (binaryOp op) r) (hr : RvD X.K r x y z) (ha : Ev X Γ M a x M1) (hb : Ev X Γ M1 b y M2) : Ev X Γ M (.BinOp a op b pos) z M2 :=
  pe_imp (pe_op ho ha hb) fun σ H Q ⟨lo, hm, q⟩ => ⟨lo, hm, fun va H1 s1 m1 z1 => ⟨lo.mono s1, m1, fun vb H2 s2 m2 z2 => hr H2 M2 va vb (z1.mono s2) z2 m2 Q fun w H3 s3 m3 z3 => q w H3 ((s1.trans s2).trans s3) m3 z3⟩⟩
theorem e_cmp {op : CmpOp} {r : R2} (ho : OpR X (compareOp op) r) (hr : RvD X.K r x y z) (ha : Ev X Γ M a x M1) (hb : Ev X Γ M1 b y M2) (hn : behindInMarks op b = false := by first | exact nobehind _ (by decide) (by decide) | rfl) : Ev X Γ M (.Compare a [op] [b] pos) z M2 :=
  pe_imp (pe_cmpR ho ha hb hn) fun σ H Q ⟨lo, hm, q⟩ => ⟨lo, hm, fun va H1 s1 m1 z1 => ⟨lo.mono s1, m1, fun vb H2 s2 m2 z2 => hr H2 M2 va vb (z1.mono s2) z2 m2 Q fun w H3 s3 m3 z3 => q w H3 ((s1.trans s2).trans s3) m3 z3⟩⟩
theorem rv_I0 {K : PySem.W.Frag} {g : Int → Int → V} {h : Int → Int → D} (hg : ∀ H i j, Dz K H (g i j) (h i j)) {i j : Int} : RvD K (rI0 g) (.int i) (.int j) (h i j) := fun H M u v z1 z2 m Q q => by
  cases z1
  cases z2
  exact ⟨i, j, rfl, rfl, q _ H (Sx.refl H) m (hg H i j)⟩
theorem rv_I {K : PySem.W.Frag} {C : Int → Int → Prop} {g : Int → Int → V} {h : Int → Int → D} (hg : ∀ H i j, Dz K H (g i j) (h i j)) {i j : Int} (hc : C i j) : RvD K (rI C g) (.int i) (.int j) (h i j) := fun H M u v z1 z2 m Q q => by
  cases z1
  cases z2
  exact ⟨i, j, rfl, rfl, hc, q _ H (Sx.refl H) m (hg H i j)⟩
variable {i j : Int}
theorem e_add (ha : Ev X Γ M a (.int i) M1) (hb : Ev X Γ M1 b (.int j) M2) : Ev X Γ M (.BinOp a .Add b pos) (.int (i + j)) M2 := e_op op_add (rv_I0 (h := fun i j => .int (i + j)) fun _ _ _ => .int _) ha hb
theorem e_sub (ha : Ev X Γ M a (.int i) M1) (hb : Ev X Γ M1 b (.int j) M2) : Ev X Γ M (.BinOp a .Sub b pos) (.int (i - j)) M2 := e_op op_sub (rv_I0 (h := fun i j => .int (i - j)) fun _ _ _ => .int _) ha hb
theorem e_mul (hc : CMul i j) (ha : Ev X Γ M a (.int i) M1) (hb : Ev X Γ M1 b (.int j) M2) : Ev X Γ M (.BinOp a .Mult b pos) (.int (i * j)) M2 := e_op op_mul (rv_I (h := fun i j => .int (i * j)) (fun _ _ _ => .int _) hc) ha hb
theorem e_fdiv (hc : CDiv i j) (ha : Ev X Γ M a (.int i) M1) (hb : Ev X Γ M1 b (.int j) M2) : Ev X Γ M (.BinOp a .FloorDiv b pos) (.int (i / j)) M2 := e_op op_fdiv (rv_I (h := fun i j => .int (i / j)) (fun _ _ _ => .int _) hc) ha hb
theorem e_mod (hc : 0 < j) (ha : Ev X Γ M a (.int i) M1) (hb : Ev X Γ M1 b (.int j) M2) : Ev X Γ M (.BinOp a .Mod b pos) (.int (i % j)) M2 := e_op op_mod (rv_I (C := fun _ j => 0 < j) (h := fun i j => .int (i % j)) (fun _ _ _ => .int _) hc) ha hb
theorem e_pow (hc : CPow i j) (ha : Ev X Γ M a (.int i) M1) (hb : Ev X Γ M1 b (.int j) M2) : Ev X Γ M (.BinOp a .Pow b pos) (.int (i ^ j.toNat)) M2 := e_op op_pow (rv_I (h := fun i j => .int (i ^ j.toNat)) (fun _ _ _ => .int _) hc) ha hb
theorem e_lt (ha : Ev X Γ M a (.int i) M1) (hb : Ev X Γ M1 b (.int j) M2) : Ev X Γ M (.Compare a [.Lt] [b] pos) (.bl (decide (i < j))) M2 := e_cmp op_lt (rv_I0 (h := fun i j => .bl (decide (i < j))) fun _ _ _ => .bl _) ha hb
theorem e_le (ha : Ev X Γ M a (.int i) M1) (hb : Ev X Γ M1 b (.int j) M2) : Ev X Γ M (.Compare a [.LtE] [b] pos) (.bl (decide (i ≤ j))) M2 := e_cmp op_le (rv_I0 (h := fun i j => .bl (decide (i ≤ j))) fun _ _ _ => .bl _) ha hb
theorem e_gt (ha : Ev X Γ M a (.int i) M1) (hb : Ev X Γ M1 b (.int j) M2) : Ev X Γ M (.Compare a [.Gt] [b] pos) (.bl (decide (j < i))) M2 := e_cmp op_gt (rv_I0 (h := fun i j => .bl (decide (j < i))) fun _ _ _ => .bl _) ha hb
theorem e_ge (ha : Ev X Γ M a (.int i) M1) (hb : Ev X Γ M1 b (.int j) M2) : Ev X Γ M (.Compare a [.GtE] [b] pos) (.bl (decide (j ≤ i))) M2 := e_cmp op_ge (rv_I0 (h := fun i j => .bl (decide (j ≤ i))) fun _ _ _ => .bl _) ha hb
theorem rv_eqI {K : PySem.W.Frag} : RvD K rEq (.int i) (.int j) (.bl (decide (i = j))) := fun H M u v z1 z2 m Q q => by
  cases z1
  cases z2
  refine ⟨rfl, ?_⟩
  have e : decide (V.int i = V.int j) = decide (i = j) := by simp
  rw [e]
  exact q _ H (Sx.refl H) m (.bl _)
theorem rv_neI {K : PySem.W.Frag} : RvD K rNe (.int i) (.int j) (.bl (!decide (i = j))) := fun H M u v z1 z2 m Q q => by
  cases z1
  cases z2
  refine ⟨rfl, ?_⟩
  have e : decide (V.int i = V.int j) = decide (i = j) := by simp
  rw [e]
  exact q _ H (Sx.refl H) m (.bl _)
theorem rv_eqS {K : PySem.W.Frag} {i j : Str} : RvD K rEq (.str i) (.str j) (.bl (decide (i = j))) := fun H M u v z1 z2 m Q q => by
  cases z1
  cases z2
  refine ⟨rfl, ?_⟩
  have e : decide (V.str i = V.str j) = decide (i = j) := by simp
  rw [e]
  exact q _ H (Sx.refl H) m (.bl _)
theorem rv_neS {K : PySem.W.Frag} {i j : Str} : RvD K rNe (.str i) (.str j) (.bl (!decide (i = j))) := fun H M u v z1 z2 m Q q => by
  cases z1
  cases z2
  refine ⟨rfl, ?_⟩
  have e : decide (V.str i = V.str j) = decide (i = j) := by simp
  rw [e]
  exact q _ H (Sx.refl H) m (.bl _)
theorem e_eqI (ha : Ev X Γ M a (.int i) M1) (hb : Ev X Γ M1 b (.int j) M2) : Ev X Γ M (.Compare a [.Eq] [b] pos) (.bl (decide (i = j))) M2 := e_cmp op_eq rv_eqI ha hb
theorem e_neI (ha : Ev X Γ M a (.int i) M1) (hb : Ev X Γ M1 b (.int j) M2) : Ev X Γ M (.Compare a [.NotEq] [b] pos) (.bl (!decide (i = j))) M2 := e_cmp op_ne rv_neI ha hb
theorem e_eqS {s t : Str} (ha : Ev X Γ M a (.str s) M1) (hb : Ev X Γ M1 b (.str t) M2) : Ev X Γ M (.Compare a [.Eq] [b] pos) (.bl (decide (s = t))) M2 := e_cmp op_eq rv_eqS ha hb
theorem e_neS {s t : Str} (ha : Ev X Γ M a (.str s) M1) (hb : Ev X Γ M1 b (.str t) M2) : Ev X Γ M (.Compare a [.NotEq] [b] pos) (.bl (!decide (s = t))) M2 := e_cmp op_ne rv_neS ha hb
/-- is None -/
def isNon : D → Bool
  | .non => true
  | _ => false
theorem isNon_v {K : PySem.W.Frag} {H : Hp} {u : V} (h : Dz K H u d) : decide (u = V.non) = isNon d := by cases h <;> rfl
theorem e_isN (ha : Ev X Γ M a d M1) (hb : Ev X Γ M1 b .non M2) : Ev X Γ M (.Compare a [.Is] [b] pos) (.bl (isNon d)) M2 := e_cmp op_isN (fun H M u v z1 z2 m Q q => by
  cases z2
  refine ⟨rfl, ?_⟩
  rw [isNon_v z1]
  exact q _ H (Sx.refl H) m (.bl _)) ha hb
theorem e_notN (ha : Ev X Γ M a d M1) (hb : Ev X Γ M1 b .non M2) : Ev X Γ M (.Compare a [.IsNot] [b] pos) (.bl (!isNon d)) M2 := e_cmp op_notN (fun H M u v z1 z2 m Q q => by
  cases z2
  refine ⟨rfl, ?_⟩
  rw [isNon_v z1]
  exact q _ H (Sx.refl H) m (.bl _)) ha hb
/-- a < b < c -/
def chainD (p q : Int → Int → Bool) (i j k : Int) : Bool := p i j && q j k
theorem e_chain {op op' : CmpOp} {p q : Int → Int → Bool} {c : Expr} {k : Int} (ho : OpR X (compareOp op) (rI0 fun i j => .bl (p i j))) (ho' : OpR X (compareOp op') (rI0 fun i j => .bl (q i j)))
    (ha : Ev X Γ M a (.int i) M1) (hb : Ev X Γ M1 b (.int j) M2) (hc : Ev X Γ M2 c (.int k) M2) (hm' : lastMarks [op, op'] [b, c] = false) : Ev X Γ M (.Compare a [op, op'] [b, c] pos) (.bl (p i j && q j k)) M2 := by
  refine pe_imp (pe_chain ho ho' ha hb hc hm') fun σ H Q ⟨lo, hm, qq⟩ => ⟨lo, hm, fun va H1 s1 m1 z1 => ⟨lo.mono s1, m1, fun vb H2 s2 m2 z2 => ?_⟩⟩
  have z1' := z1.mono s2
  cases z1'
  cases z2
  refine ⟨i, j, rfl, rfl, _, rfl, ?_⟩
  cases hp : p i j with
  | true =>
    refine iteT ?_
    refine ⟨(lo.mono s1).mono s2, m2, fun vc H3 s3 m3 z3 => ?_⟩
    cases z3
    exact ⟨j, k, rfl, rfl, qq _ H3 ((s1.trans s2).trans s3) m3 (by rw [hp]; exact .bl _)⟩
  | false =>
    refine iteF ?_
    exact qq _ H2 (s1.trans s2) m2 (by rw [hp]; exact .bl _)
theorem e_chLL {c : Expr} {k : Int} (ha : Ev X Γ M a (.int i) M1) (hb : Ev X Γ M1 b (.int j) M2) (hc : Ev X Γ M2 c (.int k) M2) (hm' : lastMarks [.LtE, .LtE] [b, c] = false := by rfl) : Ev X Γ M (.Compare a [.LtE, .LtE] [b, c] pos) (.bl (decide (i ≤ j) && decide (j ≤ k))) M2 := e_chain op_le op_le ha hb hc hm'
theorem e_chSL {c : Expr} {k : Int} (ha : Ev X Γ M a (.int i) M1) (hb : Ev X Γ M1 b (.int j) M2) (hc : Ev X Γ M2 c (.int k) M2) (hm' : lastMarks [.Lt, .LtE] [b, c] = false := by rfl) : Ev X Γ M (.Compare a [.Lt, .LtE] [b, c] pos) (.bl (decide (i < j) && decide (j ≤ k))) M2 := e_chain op_lt op_le ha hb hc hm'
theorem e_chSS {c : Expr} {k : Int} (ha : Ev X Γ M a (.int i) M1) (hb : Ev X Γ M1 b (.int j) M2) (hc : Ev X Γ M2 c (.int k) M2) (hm' : lastMarks [.Lt, .Lt] [b, c] = false := by rfl) : Ev X Γ M (.Compare a [.Lt, .Lt] [b, c] pos) (.bl (decide (i < j) && decide (j < k))) M2 := e_chain op_lt op_lt ha hb hc hm'
theorem e_chLS {c : Expr} {k : Int} (ha : Ev X Γ M a (.int i) M1) (hb : Ev X Γ M1 b (.int j) M2) (hc : Ev X Γ M2 c (.int k) M2) (hm' : lastMarks [.LtE, .Lt] [b, c] = false := by rfl) : Ev X Γ M (.Compare a [.LtE, .Lt] [b, c] pos) (.bl (decide (i ≤ j) && decide (j < k))) M2 := e_chain op_le op_lt ha hb hc hm'
/-! ### texts -/
theorem e_addS {s t : Str} (hz : s.length + t.length ≤ sizeLine) (ha : Ev X Γ M a (.str s) M1) (hb : Ev X Γ M1 b (.str t) M2) : Ev X Γ M (.BinOp a .Add b pos) (.str (s ++ t)) M2 := e_op op_add_str (fun H M u v z1 z2 m Q q => by
  cases z1
  cases z2
  exact ⟨s, t, rfl, rfl, hz, q _ H (Sx.refl H) m (.str _)⟩) ha hb
theorem e_inSg {c : Nat} {t : Str} (ha : Ev X Γ M a (.str ⟨#[c]⟩) M1) (hb : Ev X Γ M1 b (.str t) M2) (hn : behindInMarks .In b = false := by rfl) : Ev X Γ M (.Compare a [.In] [b] pos) (.bl (decide (c ∈ t.cps.toList))) M2 := e_cmp op_in_sign (fun H M u v z1 z2 m Q q => by
  cases z1
  cases z2
  exact ⟨c, t, rfl, rfl, q _ H (Sx.refl H) m (.bl _)⟩) ha hb hn
theorem e_ninSg {c : Nat} {t : Str} (ha : Ev X Γ M a (.str ⟨#[c]⟩) M1) (hb : Ev X Γ M1 b (.str t) M2) (hn : behindInMarks .NotIn b = false := by rfl) : Ev X Γ M (.Compare a [.NotIn] [b] pos) (.bl (!decide (c ∈ t.cps.toList))) M2 := e_cmp op_notIn_sign (fun H M u v z1 z2 m Q q => by
  cases z1
  cases z2
  exact ⟨c, t, rfl, rfl, q _ H (Sx.refl H) m (.bl _)⟩) ha hb hn

/-! ### not, and, or, if .. else -/
theorem e_not {p : Bool} (ha : Ev X Γ M a (.bl p) M1) : Ev X Γ M (.UnaryOp .Not a pos) (.bl (!p)) M1 := pe_imp (pe_not ha) fun σ H Q ⟨lo, hm, q⟩ => ⟨lo, hm, fun va H1 s1 m1 z1 => by
  cases z1
  exact ⟨p, rfl, q _ H1 s1 m1 (.bl _)⟩⟩
theorem e_one {op : BoolOp} (ha : Ev X Γ M a d M1) : Ev X Γ M (.BoolOp op [a] pos) d M1 := pe_one ha
theorem e_and {p r : Bool} (ha : Ev X Γ M a (.bl p) M1) (hb : p = true → Ev X Γ M1 (.BoolOp .And (b :: es) pos) (.bl r) M2) (h0 : p = false → M1 = M2 := by intro _; rfl) : Ev X Γ M (.BoolOp .And (a :: b :: es) pos) (.bl (p && r)) M2 := by
  cases p with
  | true => exact pe_imp (pe_and ha (hb rfl)) fun σ H Q ⟨lo, hm, q⟩ => ⟨lo, hm, fun va H1 s1 m1 z1 => by
      cases z1
      refine ⟨true, rfl, ?_⟩
      refine iteT ?_
      exact ⟨lo.mono s1, m1, fun v H2 s2 m2 z2 => q v H2 (s1.trans s2) m2 z2⟩⟩
  | false => exact pe_imp (pe_and ha pe_no) fun σ H Q ⟨lo, hm, q⟩ => ⟨lo, hm, fun va H1 s1 m1 z1 => by
      cases z1
      refine ⟨false, rfl, ?_⟩
      refine iteF ?_
      exact q _ H1 s1 (by rw [← h0 rfl]; exact m1) (.bl _)⟩
theorem e_or {p r : Bool} (ha : Ev X Γ M a (.bl p) M1) (hb : p = false → Ev X Γ M1 (.BoolOp .Or (b :: es) pos) (.bl r) M2) (h0 : p = true → M1 = M2 := by intro _; rfl) : Ev X Γ M (.BoolOp .Or (a :: b :: es) pos) (.bl (p || r)) M2 := by
  cases p with
  | false => exact pe_imp (pe_or ha (hb rfl)) fun σ H Q ⟨lo, hm, q⟩ => ⟨lo, hm, fun va H1 s1 m1 z1 => by
      cases z1
      refine ⟨false, rfl, ?_⟩
      refine iteF ?_
      exact ⟨lo.mono s1, m1, fun v H2 s2 m2 z2 => q v H2 (s1.trans s2) m2 z2⟩⟩
  | true => exact pe_imp (pe_or ha pe_no) fun σ H Q ⟨lo, hm, q⟩ => ⟨lo, hm, fun va H1 s1 m1 z1 => by
      cases z1
      refine ⟨true, rfl, ?_⟩
      refine iteT ?_
      exact q _ H1 s1 (by rw [← h0 rfl]; exact m1) (.bl _)⟩
theorem e_ife {p : Bool} {c : Expr} (hc : EvT X Γ M c p M1) (ha : p = true → Ev X Γ M1 a d M2) (hb : p = false → Ev X Γ M1 b d M2) : Ev X Γ M (.IfExp c a b pos) d M2 := by
  cases p with
  | true => exact pe_imp (pe_ifExp hc (ha rfl) pe_no) fun σ H Q ⟨lo, hm, q⟩ => ⟨lo, hm, fun H1 s1 m1 => by
      refine iteT ?_
      exact ⟨lo.mono s1, m1, fun v H2 s2 m2 z2 => q v H2 (s1.trans s2) m2 z2⟩⟩
  | false => exact pe_imp (pe_ifExp hc pe_no (hb rfl)) fun σ H Q ⟨lo, hm, q⟩ => ⟨lo, hm, fun H1 s1 m1 => by
      refine iteF ?_
      exact ⟨lo.mono s1, m1, fun v H2 s2 m2 z2 => q v H2 (s1.trans s2) m2 z2⟩⟩
/-! ### tests -/
theorem t_val {p : Bool} (h : Ev X Γ M e (.bl p) M1) (he : ∀ whole, isTrue e X.env whole = (do let v ← whole; standAt e.pos; holding [v] (truthy v)) := by intro _; rfl) : EvT X Γ M e p M1 :=
  pt_imp (pt_val h he) fun σ H Q ⟨lo, hm, q⟩ => ⟨lo, hm, fun v H1 s1 m1 z1 => by
    cases z1
    exact ⟨p, rfl, q H1 s1 m1⟩⟩
theorem t_not {p : Bool} (h : EvT X Γ M a p M1) : EvT X Γ M (.UnaryOp .Not a pos) (!p) M1 := pt_imp (pt_not h) fun σ H Q ⟨lo, hm, q⟩ => ⟨lo, hm, fun H1 s1 m1 => q H1 s1 m1⟩
theorem w_one {op : BoolOp} {p : Bool} (h : EvT X Γ M a p M1) : EvW X Γ M (.BoolOp op [a] pos) p M1 := by
  cases op with
  | And => exact pw_and1 h
  | Or => exact pw_or1 h
theorem w_and {p r : Bool} (ha : EvT X Γ M a p M1) (hb : p = true → EvW X Γ M1 (.BoolOp .And (b :: es) pos) r M2) (h0 : p = false → M1 = M2 := by intro _; rfl) : EvW X Γ M (.BoolOp .And (a :: b :: es) pos) (p && r) M2 := by
  cases p with
  | true => exact pw_imp (pw_and ha (hb rfl)) fun σ H Q ⟨lo, hm, q⟩ => ⟨lo, hm, fun H1 s1 m1 => by
      refine iteT ?_
      exact ⟨lo.mono s1, m1, fun H2 s2 m2 => q H2 (s1.trans s2) m2⟩⟩
  | false => exact pw_imp (pw_and ha pw_no) fun σ H Q ⟨lo, hm, q⟩ => ⟨lo, hm, fun H1 s1 m1 => by
      refine iteF ?_
      exact q H1 s1 (by rw [← h0 rfl]; exact m1)⟩
theorem w_or {p r : Bool} (ha : EvT X Γ M a p M1) (hb : p = false → EvW X Γ M1 (.BoolOp .Or (b :: es) pos) r M2) (h0 : p = true → M1 = M2 := by intro _; rfl) : EvW X Γ M (.BoolOp .Or (a :: b :: es) pos) (p || r) M2 := by
  cases p with
  | false => exact pw_imp (pw_or ha (hb rfl)) fun σ H Q ⟨lo, hm, q⟩ => ⟨lo, hm, fun H1 s1 m1 => by
      refine iteF ?_
      exact ⟨lo.mono s1, m1, fun H2 s2 m2 => q H2 (s1.trans s2) m2⟩⟩
  | true => exact pw_imp (pw_or ha pw_no) fun σ H Q ⟨lo, hm, q⟩ => ⟨lo, hm, fun H1 s1 m1 => by
      refine iteT ?_
      exact q H1 s1 (by rw [← h0 rfl]; exact m1)⟩
theorem t_w {p : Bool} (h : EvW X Γ M e p M1) : EvT X Γ M e p M1 := h.pt
/-! ### argument lists, displays -/
theorem a_nil : EvA X Γ M [] [] M := pa_imp pa_nil fun σ H Q ⟨_, hm, q⟩ => q [] H (Sx.refl H) hm .nil
theorem a_cons (ha : Ev X Γ M e d M1) (hr : EvA X Γ M1 es ds M2) (hs : starEach (e :: es) X.env = (false, eval e X.env) :: starEach es X.env := by rfl) : EvA X Γ M (e :: es) (d :: ds) M2 :=
  pa_imp (pa_cons ha hr hs) fun σ H Q ⟨lo, hm, q⟩ => ⟨lo, hm, fun v H1 s1 m1 z1 => ⟨lo.mono s1, m1, fun vs H2 s2 m2 z2 => q _ H2 (s1.trans s2) m2 (.cons (z1.mono s2) z2)⟩⟩
theorem e_tup {x1} (h : EvA X Γ M es ds M1) (hl : ds.length ≤ 100000 := by first | decide | (simp; done) | omega) : Ev X Γ M (.Tuple es x1 pos) (.tup ds) M1 :=
  pe_imp (pe_tup h) fun σ H Q ⟨lo, hm, q⟩ => ⟨lo, hm, fun vs H1 s1 m1 z1 => ⟨by rw [z1.length]; exact Nat.le_trans hl (by decide), fun p hp => q _ _ (s1.trans (Sx.new hp)) (m1.new hp) (.tup (.inl (.inl upd_same)) (z1.mono (Sx.new hp)))⟩⟩
theorem n_lst (h : EvA X Γ M es ds M1) (hl : ds.length ≤ 100000 := by first | decide | (simp; done) | omega) : EvN X Γ M (.List es pos) ds M1 :=
  pe_imp (pe_lst h) fun σ H Q ⟨lo, hm, q⟩ => ⟨lo, hm, fun vs H1 s1 m1 z1 => ⟨by rw [z1.length]; exact Nat.le_trans hl (by decide), fun p hp => q _ _ _ (s1.trans (Sx.new hp)) (m1.new hp) (m1.none hp) upd_same (z1.mono (Sx.new hp))⟩⟩
/-- a new list that nobody will change -/
theorem e_fz (h : EvN X Γ M e ds M1) : Ev X Γ M e (.lst ds) M1 := ⟨fun pins s σ H Q I ⟨lo, hm, q⟩ =>
  thn (h.run pins s σ H (fun v H1 => ∃ p xs, v = .ref p ∧ Sx H H1 ∧ Has X.K H1 M1 ∧ M1 p = none ∧ H1 p = some (.lst xs) ∧ DzA X.K H1 xs ds) I ⟨lo, hm, fun p H1 xs s1 m1 n1 e1 z1 => ⟨p, xs, rfl, s1, m1, n1, e1, z1⟩⟩) fun u s1 ⟨v, H1, I1, rv, p, xs, ev, sx, m1, n1, e1, z1⟩ => by
    subst ev
    obtain ⟨od, I2⟩ := I1.lock e1 True.intro
    have s2 : Sx H1 (upd H1 p (.frz od (.lst xs))) := Sx.put e1 True.intro
    exact ⟨.ref p, _, I2, rv, q _ _ (sx.trans s2) (m1.drop s2 n1) (.lst ⟨od, upd_same⟩ (z1.mono s2))⟩⟩
/-- one that could change, and from here on can't -/
theorem e_fzM {l : Addr} (h : Ev X Γ M e (.obj l) M1) (hl : M1 l = some (.lst ds)) (hle : Mem.Le M2 M1) (hn : M2 l = none) : Ev X Γ M e (.lst ds) M2 := ⟨fun pins s σ H Q I ⟨lo, hm, q⟩ =>
  thn (h.run pins s σ H (fun v H1 => v = .ref l ∧ Sx H H1 ∧ Has X.K H1 M1) I ⟨lo, hm, fun v H1 s1 m1 z1 => by cases z1; exact ⟨rfl, s1, m1⟩⟩) fun u s1 ⟨v, H1, I1, rv, ev, sx, m1⟩ => by
    subst ev
    obtain ⟨xs, e1, z1⟩ := m1 l _ hl
    obtain ⟨od, I2⟩ := I1.lock e1 True.intro
    have s2 : Sx H1 (upd H1 l (.frz od (.lst xs))) := Sx.put e1 True.intro
    exact ⟨.ref l, _, I2, rv, q _ _ (sx.trans s2) ((m1.le hle).drop s2 hn) (.lst ⟨od, upd_same⟩ (z1.mono s2))⟩⟩
theorem e_fzI {l C : Addr} {fs : List (Str × D)} (h : Ev X Γ M e (.obj l) M1) (hl : M1 l = some (.ins C fs)) (hle : Mem.Le M2 M1) (hn : M2 l = none) : Ev X Γ M e (.ins C fs) M2 := ⟨fun pins s σ H Q I ⟨lo, hm, q⟩ =>
  thn (h.run pins s σ H (fun v H1 => v = .ref l ∧ Sx H H1 ∧ Has X.K H1 M1) I ⟨lo, hm, fun v H1 s1 m1 z1 => by cases z1; exact ⟨rfl, s1, m1⟩⟩) fun u s1 ⟨v, H1, I1, rv, ev, sx, m1⟩ => by
    subst ev
    obtain ⟨dx, vs, e1, z1⟩ := m1 l _ hl
    obtain ⟨od, I2⟩ := I1.lock e1 True.intro
    have s2 : Sx H1 (upd H1 l (.frz od (.ins C dx vs))) := Sx.put e1 True.intro
    exact ⟨.ref l, _, I2, rv, q _ _ (sx.trans s2) ((m1.le hle).drop s2 hn) (.ins upd_same (z1.mono s2))⟩⟩
end
end PR

set_option Elab.async false
set_option linter.all false
set_option maxRecDepth 100000
set_option maxHeartbeats 4000000
/-! PR, part 3: calls, attributes, methods, items. -/
namespace PR
open PySem PySem.Spec PyProof.Rows L2

/-- a def's promise by data: arguments, memory, what is wanted of the answer and the memory -/
abbrev SpD := List D → Mem → (D → Mem → Prop) → Prop
def toSp (K : PySem.W.Frag) (sp : SpD) : Sp := fun vs H Q _ => ∃ ds M, DzA K H vs ds ∧ Has K H M ∧ sp ds M fun d M' => ∀ v H', Sx H H' → Has K H' M' → Dz K H' v d → Q v H'
/-- defaults -/
def Dfl (K : PySem.W.Frag) (fd : FuncData) (ps : List Str) (dd : List D) : Prop := ∃ (dvs : List V) (vals : List Value), Binds K fd ps vals ∧ Vals dvs vals ∧ ∀ H, DzA K H dvs dd
/-- a global def -/
structure Fg (P : Program) (w : World) (K : PySem.W.Frag) (mg : Str → Option Value) (base : Heap) (k : Nat) (n : Str) (ps : List Str) (dd : List D) (sp : SpD) : Prop where
  ex : ∃ f fd, FnOk P w K mg base CX0 k f fd ps (toSp K sp) ∧ mg n = some (.ref f) ∧ PySem.W.keepIn K (.ref f) = true ∧ Dfl K fd ps dd
/-- a method -/
structure Mt (P : Program) (w : World) (K : PySem.W.Frag) (mg : Str → Option Value) (base : Heap) (k : Nat) (C : Addr) (m : Str) (ps : List Str) (dd : List D) (sp : SpD) : Prop where
  ex : ∃ f fd, FnOk P w K mg base CX0 k f fd ps (toSp K sp) ∧ Meth K C m f ∧ Dfl K fd ps dd
  cl : Cls K C
/-- a class with its __init__ -/
structure Cg (P : Program) (w : World) (K : PySem.W.Frag) (mg : Str → Option Value) (base : Heap) (k : Nat) (n : Str) (C : Addr) (ps : List Str) (dd : List D) (sp : SpD) : Prop where
  ex : ∃ f fd, FnOk P w K mg base CX0 k f fd ps (toSp K sp) ∧ Mk K C f ∧ Dfl K fd ps dd
  mg : mg n = some (.ref C)
section
variable {P : Program} {w : World} {K : PySem.W.Frag} {mg : Str → Option Value} {base : Heap} {j k : Nat} {n m : Str} {C : Addr} {ps : List Str} {dd : List D} {sp : SpD}
theorem Fg.mono (F : Fg P w K mg base j n ps dd sp) (h : j ≤ k) : Fg P w K mg base k n ps dd sp := by
  obtain ⟨f, fd, a, b, c, d⟩ := F.ex
  exact ⟨f, fd, a.mono h, b, c, d⟩
theorem Mt.mono (F : Mt P w K mg base j C m ps dd sp) (h : j ≤ k) : Mt P w K mg base k C m ps dd sp := by
  obtain ⟨f, fd, a, b, c⟩ := F.ex
  exact ⟨⟨f, fd, a.mono h, b, c⟩, F.cl⟩
theorem Cg.mono (F : Cg P w K mg base j n C ps dd sp) (h : j ≤ k) : Cg P w K mg base k n C ps dd sp := by
  obtain ⟨f, fd, a, b, c⟩ := F.ex
  exact ⟨⟨f, fd, a.mono h, b, c⟩, F.mg⟩
end

section
variable {X : Cx} {Γ : Gm} {M M1 M2 M3 : Mem} {a b e o : Expr} {es : List Expr} {x y z d : D} {ds dd : List D} {pos apos p : Pos} {k : Nat} {n m : Str} {C : Addr} {ps : List Str} {sp : SpD}
/-! ### calls of defs -/
theorem e_callP {P : D → Mem → Prop} (F : Fg X.prog X.w X.K X.mg X.base k n ps dd sp) (hr : Room k X.A) (ha : EvA X Γ M (e :: es) ds M1) (hs : sp (ds ++ dd) M1 P) (hm : ∀ ds M (Q Q' : D → Mem → Prop), (∀ d M', Q d M' → Q' d M') → sp ds M Q → sp ds M Q')
    (hg : Gl X n := by rfl) (hdb : (n == ("__debug__" : Str)) = false := by decide) (he : starEach (e :: es) X.env = (false, eval e X.env) :: starEach es X.env := by rfl) (hpl : (backTo pos (starEach es X.env)).any (·.1) = false := by rfl) :
    EvP X Γ M (.Call (.Name n p) (e :: es) [] pos) P := by
  obtain ⟨f, fd, hF, hmg, hk, dvs, vals, hb, hd, hz⟩ := F.ex
  refine pe_imp (pe_call hF hr hg hmg hk hb hd (pass0 (X := X)) ha hdb he hpl) fun σ H Q ⟨lo, hM, q⟩ => ⟨lo, hM, fun vs H1 s1 m1 z1 => ⟨ds ++ dd, M1, z1.app (hz H1), m1, ?_⟩⟩
  exact hm _ _ _ _ (fun d M' hP v H' s2 m2 z2 => q v H' d M' (s1.trans s2) m2 z2 hP) hs
theorem e_callP0 {P : D → Mem → Prop} (F : Fg X.prog X.w X.K X.mg X.base k n ps dd sp) (hr : Room k X.A) (hs : sp dd M P) (hm : ∀ ds M (Q Q' : D → Mem → Prop), (∀ d M', Q d M' → Q' d M') → sp ds M Q → sp ds M Q')
    (hg : Gl X n := by rfl) (hdb : (n == ("__debug__" : Str)) = false := by decide) :
    EvP X Γ M (.Call (.Name n p) [] [] pos) P := by
  obtain ⟨f, fd, hF, hmg, hk, dvs, vals, hb, hd, hz⟩ := F.ex
  refine pe_imp (pe_call0 hF hr hg hmg hk hb hd (pass0 (X := X)) hdb) fun σ H Q ⟨lo, hM, q⟩ => ⟨dd, M, hz H, hM, ?_⟩
  exact hm _ _ _ _ (fun d M' hP v H' s2 m2 z2 => q v H' d M' s2 m2 z2 hP) hs
/-- a call with one answer -/
theorem e_call (F : Fg X.prog X.w X.K X.mg X.base k n ps dd sp) (hr : Room k X.A) (ha : EvA X Γ M (e :: es) ds M1) (hs : ∀ Q : D → Mem → Prop, Q d M2 → sp (ds ++ dd) M1 Q)
    (hg : Gl X n := by rfl) (hdb : (n == ("__debug__" : Str)) = false := by decide) (he : starEach (e :: es) X.env = (false, eval e X.env) :: starEach es X.env := by rfl) (hpl : (backTo pos (starEach es X.env)).any (·.1) = false := by rfl) :
    Ev X Γ M (.Call (.Name n p) (e :: es) [] pos) d M2 := by
  obtain ⟨f, fd, hF, hmg, hk, dvs, vals, hb, hd, hz⟩ := F.ex
  refine pe_imp (pe_call hF hr hg hmg hk hb hd (pass0 (X := X)) ha hdb he hpl) fun σ H Q ⟨lo, hM, q⟩ => ⟨lo, hM, fun vs H1 s1 m1 z1 => ⟨ds ++ dd, M1, z1.app (hz H1), m1, ?_⟩⟩
  exact hs _ fun v H' s2 m2 z2 => q v H' (s1.trans s2) m2 z2
theorem e_call0 (F : Fg X.prog X.w X.K X.mg X.base k n ps dd sp) (hr : Room k X.A) (hs : ∀ Q : D → Mem → Prop, Q d M2 → sp dd M Q)
    (hg : Gl X n := by rfl) (hdb : (n == ("__debug__" : Str)) = false := by decide) : Ev X Γ M (.Call (.Name n p) [] [] pos) d M2 := by
  obtain ⟨f, fd, hF, hmg, hk, dvs, vals, hb, hd, hz⟩ := F.ex
  refine pe_imp (pe_call0 hF hr hg hmg hk hb hd (pass0 (X := X)) hdb) fun σ H Q ⟨lo, hM, q⟩ => ⟨dd, M, hz H, hM, ?_⟩
  exact hs _ fun v H' s2 m2 z2 => q v H' s2 m2 z2

/-! ### instances -/
/-- what stands at a is such an instance, changeable or not -/
theorem ins_getR {P : Program} {w : World} {H : Hp} {h : Heap} {a C dx : Addr} {fs : List (Str × V)} (hok : HOk P w H h) (e : Rd H a (.ins C dx fs)) : ∃ mA, ObjM h a dx C mA ∧ (∀ f, RelO (fs.lookup f) (mA f)) := by
  obtain ⟨d, z, ne, ob, mA, n, r, q⟩ := (show ObjOk P w H h a (.ins C dx fs) from e.ok hok)
  exact ⟨mA, ⟨ob, n, ne⟩, r⟩
theorem getattr_okR {A : Around} {E : Value → Shared → Prop} {pins : List (Addr × Obj)} {σ : L2.St} {H : Hp} {s : Shared} {a C dx : Addr} {fs : List (Str × V)} {f : Str} {v : V} {b : Bool} {Q : Value → Shared → Prop} (I : Inv X pins σ H s) (e : Rd H a (.ins C dx fs)) (c : Cls X.K C) (n : NoAttr X.K C f) (l : fs.lookup f = some v)
    (h : ∀ u s', Inv X pins σ H s' → RelV v u → Q u s') : wpAny (model X.prog X.w) A (getAttr (.ref a) f b) Q E s := by
  obtain ⟨mA, O, r⟩ := ins_getR I.hok e
  obtain ⟨u, hu, ru⟩ := RelO.some_of (v := v) (o := mA f) (by rw [← l]; exact r f)
  exact get_map I.kIn O (c.get f) c.hd n hu (handed_of ru) (h u _ (I.tok _) ru)
theorem getmeth_okR {A : Around} {E : Value → Shared → Prop} {pins : List (Addr × Obj)} {σ : L2.St} {H : Hp} {s : Shared} {a C dx : Addr} {fs : List (Str × V)} {m : Str} {g : Addr} {pl : Sem Bool} {Q : Value × List Value → Shared → Prop} (I : Inv X pins σ H s) (e : Rd H a (.ins C dx fs)) (c : Cls X.K C) (k : Meth X.K C m g) (l : fs.lookup m = none)
    (h : Q (.ref g, [.ref a]) s) : wpAny (model X.prog X.w) A (getMethod (.ref a) m pl) Q E s := by
  obtain ⟨mA, O, r⟩ := ins_getR I.hok e
  have hn : mA m = none := RelO.none_of (by rw [← l]; exact r m)
  exact get_meth I.kIn O (c.get m) k.at_ k.fn hn h
/-- an instance as data: frozen, or in the memory -/
inductive InsD (M : Mem) : D → Addr → List (Str × D) → Prop
  | fz {C : Addr} {fs : List (Str × D)} : InsD M (.ins C fs) C fs
  | mu {a C : Addr} {fs : List (Str × D)} (h : M a = some (.ins C fs)) : InsD M (.obj a) C fs
theorem InsD.rd {K : PySem.W.Frag} {H : Hp} {M : Mem} {d : D} {C : Addr} {fs : List (Str × D)} {v : V} (h : InsD M d C fs) (hm : Has K H M) (z : Dz K H v d) : ∃ a dx vs, v = .ref a ∧ Rd H a (.ins C dx vs) ∧ DzF K H vs fs := by
  cases h with
  | fz =>
    cases z with
    | ins e t => exact ⟨_, _, _, rfl, .inr ⟨_, e⟩, t⟩
  | mu q =>
    cases z
    obtain ⟨dx, vs, e, t⟩ := hm _ _ q
    exact ⟨_, dx, vs, rfl, .inl e, t⟩
/-- o.f -/
theorem e_fld {fs : List (Str × D)} {f : Str} (he : Ev X Γ M o x M1) (hi : InsD M1 x C fs) (c : Cls X.K C) (hn : NoAttr X.K C f) (hf : fs.lookup f = some d) (hb : attributeBase o f X.env (eval o X.env) = eval o X.env := by rfl) : Ev X Γ M (.Attribute o f pos) d M1 := by
  refine ⟨fun pins s σ H Q I ⟨lo, hm, q⟩ => ?_⟩
  refine attr_of hb (thn (he.run pins s σ H (fun v H1 => Sx H H1 ∧ Has X.K H1 M1 ∧ Dz X.K H1 v x) I ⟨lo, hm, fun v H1 s1 m1 z1 => ⟨s1, m1, z1⟩⟩) fun u s1 ⟨v, H1, I1, rv, sx, m1, z1⟩ => ?_)
  obtain ⟨a, dx, vs, rfl, rd, t⟩ := hi.rd m1 z1
  obtain rfl : u = Value.ref a := rv
  obtain ⟨w, hw, zw⟩ := t.look hf
  exact getattr_okR I1 rd c hn hw fun u' s2 I2 ru => ⟨w, H1, I2, ru, q w H1 sx m1 zw⟩
/-- o.m(..) -/
theorem e_methP {P : D → Mem → Prop} {fs : List (Str × D)} {pl : Sem Bool} (F : Mt X.prog X.w X.K X.mg X.base k C m ps dd sp) (hr : Room k X.A) (he : Ev X Γ M o x M1) (hi : InsD M1 x C fs) (hf : fs.lookup m = none) (ha : EvA X Γ M1 (e :: es) ds M2)
    (hs : sp (x :: (ds ++ dd)) M2 P) (hm : ∀ ds M (Q Q' : D → Mem → Prop), (∀ d M', Q d M' → Q' d M') → sp ds M Q → sp ds M Q')
    (hst : starEach (e :: es) X.env = (false, eval e X.env) :: starEach es X.env := by rfl) (hpl : (backTo pos (starEach es X.env)).any (·.1) = false := by rfl)
    (ht : eval (.Call (.Attribute o m apos) (e :: es) [] pos) X.env = (do
      let ov ← eval o X.env
      standAt apos.atName
      let (f, first) ← holding [ov] (getMethod ov m pl)
      callWith pos f first (backTo pos (starEach (e :: es) X.env)) (backToKw pos (keywordEach [] X.env))) := by rfl) : EvP X Γ M (.Call (.Attribute o m apos) (e :: es) [] pos) P := by
  obtain ⟨f, fd, hF, hme, dvs, vals, hb, hd, hz⟩ := F.ex
  refine ⟨fun pins s σ H Q I ⟨lo, hM, q⟩ => ?_⟩
  refine PySem.W.methodCall_KW (pl := pl) (thn (he.run pins s σ H (fun v H1 => Sx H H1 ∧ Has X.K H1 M1 ∧ Dz X.K H1 v x) I ⟨lo, hM, fun v H1 s1 m1 z1 => ⟨s1, m1, z1⟩⟩) fun u s1 ⟨v, H1, I1, rv, sx, m1, z1⟩ => ?_) ht
  obtain ⟨a, dx, vs, rfl, rd, t⟩ := hi.rd m1 z1
  obtain rfl : u = Value.ref a := rv
  refine getmeth_okR I1 rd F.cl hme (t.none_ hf) ?_
  refine PySem.W.callWith_K (first := [.ref a]) (h₀ := X.base) I.ok.mod.kin hme.kp (thn (ha.run pos pins s1 σ H1 (fun vs H2 => Sx H1 H2 ∧ Has X.K H2 M2 ∧ DzA X.K H2 vs ds) I1 ⟨lo.mono sx, m1, fun vs H2 s2 m2 z2 => ⟨s2, m2, z2⟩⟩) fun us s2 ⟨ws, H2, I2, r, sx2, m2, z2⟩ => ⟨I2.kIn, ?_⟩) hst hpl
  refine run_fn (us := .ref a :: us) (vs := .ref a :: ws) hF hr hb hd (pass0 (X := X)) I2 (.cons rfl r) ⟨x :: (ds ++ dd), M2, .cons (z1.mono sx2) (z2.app (hz H2)), m2, ?_⟩
  exact hm _ _ _ _ (fun d M' hP v H' s3 m3 z3 => q v H' d M' ((sx.trans sx2).trans s3) m3 z3 hP) hs
theorem e_methP0 {P : D → Mem → Prop} {fs : List (Str × D)} {pl : Sem Bool} (F : Mt X.prog X.w X.K X.mg X.base k C m ps dd sp) (hr : Room k X.A) (he : Ev X Γ M o x M1) (hi : InsD M1 x C fs) (hf : fs.lookup m = none)
    (hs : sp (x :: dd) M1 P) (hm : ∀ ds M (Q Q' : D → Mem → Prop), (∀ d M', Q d M' → Q' d M') → sp ds M Q → sp ds M Q')
    (ht : eval (.Call (.Attribute o m apos) [] [] pos) X.env = (do
      let ov ← eval o X.env
      standAt apos.atName
      let (f, first) ← holding [ov] (getMethod ov m pl)
      callWith pos f first (backTo pos (starEach [] X.env)) (backToKw pos (keywordEach [] X.env))) := by rfl) : EvP X Γ M (.Call (.Attribute o m apos) [] [] pos) P := by
  obtain ⟨f, fd, hF, hme, dvs, vals, hb, hd, hz⟩ := F.ex
  refine ⟨fun pins s σ H Q I ⟨lo, hM, q⟩ => ?_⟩
  refine PySem.W.methodCall_KW (pl := pl) (thn (he.run pins s σ H (fun v H1 => Sx H H1 ∧ Has X.K H1 M1 ∧ Dz X.K H1 v x) I ⟨lo, hM, fun v H1 s1 m1 z1 => ⟨s1, m1, z1⟩⟩) fun u s1 ⟨v, H1, I1, rv, sx, m1, z1⟩ => ?_) ht
  obtain ⟨a, dx, vs, rfl, rd, t⟩ := hi.rd m1 z1
  obtain rfl : u = Value.ref a := rv
  refine getmeth_okR I1 rd F.cl hme (t.none_ hf) ?_
  refine PySem.W.callWith_K0 (first := [.ref a]) I1.kIn hme.kp (run_fn (us := [.ref a]) (vs := [.ref a]) hF hr hb hd (pass0 (X := X)) I1 (.cons rfl .nil) ⟨x :: dd, M1, .cons z1 (hz H1), m1, ?_⟩)
  exact hm _ _ _ _ (fun d M' hP v H' s3 m3 z3 => q v H' d M' (sx.trans s3) m3 z3 hP) hs
/-- one answer only -/
theorem ev_of_p (h : EvP X Γ M e fun d' M' => d' = d ∧ M' = M2) : Ev X Γ M e d M2 := pe_imp h fun σ H Q ⟨lo, hm, q⟩ => ⟨lo, hm, fun v H' d' M' s1 m1 z1 ⟨e1, e2⟩ => by
  subst e1 e2
  exact q v H' s1 m1 z1⟩
theorem e_meth {fs : List (Str × D)} {pl : Sem Bool} (F : Mt X.prog X.w X.K X.mg X.base k C m ps dd sp) (hr : Room k X.A) (he : Ev X Γ M o x M1) (hi : InsD M1 x C fs) (hf : fs.lookup m = none) (ha : EvA X Γ M1 (e :: es) ds M2)
    (hs : ∀ Q : D → Mem → Prop, Q d M3 → sp (x :: (ds ++ dd)) M2 Q)
    (hst : starEach (e :: es) X.env = (false, eval e X.env) :: starEach es X.env := by rfl) (hpl : (backTo pos (starEach es X.env)).any (·.1) = false := by rfl)
    (ht : eval (.Call (.Attribute o m apos) (e :: es) [] pos) X.env = (do
      let ov ← eval o X.env
      standAt apos.atName
      let (f, first) ← holding [ov] (getMethod ov m pl)
      callWith pos f first (backTo pos (starEach (e :: es) X.env)) (backToKw pos (keywordEach [] X.env))) := by rfl) : Ev X Γ M (.Call (.Attribute o m apos) (e :: es) [] pos) d M3 := by
  obtain ⟨f, fd, hF, hme, dvs, vals, hb, hd, hz⟩ := F.ex
  refine ⟨fun pins s σ H Q I ⟨lo, hM, q⟩ => ?_⟩
  refine PySem.W.methodCall_KW (pl := pl) (thn (he.run pins s σ H (fun v H1 => Sx H H1 ∧ Has X.K H1 M1 ∧ Dz X.K H1 v x) I ⟨lo, hM, fun v H1 s1 m1 z1 => ⟨s1, m1, z1⟩⟩) fun u s1 ⟨v, H1, I1, rv, sx, m1, z1⟩ => ?_) ht
  obtain ⟨a, dx, vs, rfl, rd, t⟩ := hi.rd m1 z1
  obtain rfl : u = Value.ref a := rv
  refine getmeth_okR I1 rd F.cl hme (t.none_ hf) ?_
  refine PySem.W.callWith_K (first := [.ref a]) (h₀ := X.base) I.ok.mod.kin hme.kp (thn (ha.run pos pins s1 σ H1 (fun vs H2 => Sx H1 H2 ∧ Has X.K H2 M2 ∧ DzA X.K H2 vs ds) I1 ⟨lo.mono sx, m1, fun vs H2 s2 m2 z2 => ⟨s2, m2, z2⟩⟩) fun us s2 ⟨ws, H2, I2, r, sx2, m2, z2⟩ => ⟨I2.kIn, ?_⟩) hst hpl
  refine run_fn (us := .ref a :: us) (vs := .ref a :: ws) hF hr hb hd (pass0 (X := X)) I2 (.cons rfl r) ⟨x :: (ds ++ dd), M2, .cons (z1.mono sx2) (z2.app (hz H2)), m2, ?_⟩
  exact hs _ fun v H' s3 m3 z3 => q v H' ((sx.trans sx2).trans s3) m3 z3
theorem e_meth0 {fs : List (Str × D)} {pl : Sem Bool} (F : Mt X.prog X.w X.K X.mg X.base k C m ps dd sp) (hr : Room k X.A) (he : Ev X Γ M o x M1) (hi : InsD M1 x C fs) (hf : fs.lookup m = none)
    (hs : ∀ Q : D → Mem → Prop, Q d M2 → sp (x :: dd) M1 Q)
    (ht : eval (.Call (.Attribute o m apos) [] [] pos) X.env = (do
      let ov ← eval o X.env
      standAt apos.atName
      let (f, first) ← holding [ov] (getMethod ov m pl)
      callWith pos f first (backTo pos (starEach [] X.env)) (backToKw pos (keywordEach [] X.env))) := by rfl) : Ev X Γ M (.Call (.Attribute o m apos) [] [] pos) d M2 := by
  obtain ⟨f, fd, hF, hme, dvs, vals, hb, hd, hz⟩ := F.ex
  refine ⟨fun pins s σ H Q I ⟨lo, hM, q⟩ => ?_⟩
  refine PySem.W.methodCall_KW (pl := pl) (thn (he.run pins s σ H (fun v H1 => Sx H H1 ∧ Has X.K H1 M1 ∧ Dz X.K H1 v x) I ⟨lo, hM, fun v H1 s1 m1 z1 => ⟨s1, m1, z1⟩⟩) fun u s1 ⟨v, H1, I1, rv, sx, m1, z1⟩ => ?_) ht
  obtain ⟨a, dx, vs, rfl, rd, t⟩ := hi.rd m1 z1
  obtain rfl : u = Value.ref a := rv
  refine getmeth_okR I1 rd F.cl hme (t.none_ hf) ?_
  refine PySem.W.callWith_K0 (first := [.ref a]) I1.kIn hme.kp (run_fn (us := [.ref a]) (vs := [.ref a]) hF hr hb hd (pass0 (X := X)) I1 (.cons rfl .nil) ⟨x :: dd, M1, .cons z1 (hz H1), m1, ?_⟩)
  exact hs _ fun v H' s3 m3 z3 => q v H' (sx.trans s3) m3 z3
/-- C(..): the new instance may change -/
theorem e_makeP {P : D → Mem → Prop} (F : Cg X.prog X.w X.K X.mg X.base k n C ps dd sp) (hr : Room (k + 1) X.A) (ha : EvA X Γ M (e :: es) ds M1)
    (hs : ∀ x, M1 x = none → sp (.obj x :: (ds ++ dd)) (M1.put x (.ins C [])) fun d M' => d = .non ∧ P (.obj x) M') (hm : ∀ ds M (Q Q' : D → Mem → Prop), (∀ d M', Q d M' → Q' d M') → sp ds M Q → sp ds M Q')
    (hg : Gl X n := by rfl) (hdb : (n == ("__debug__" : Str)) = false := by decide) (he : starEach (e :: es) X.env = (false, eval e X.env) :: starEach es X.env := by rfl) (hpl : (backTo pos (starEach es X.env)).any (·.1) = false := by rfl) :
    EvP X Γ M (.Call (.Name n p) (e :: es) [] pos) P := by
  obtain ⟨f, fd, hF, hmk, dvs, vals, hb, hd, hz⟩ := F.ex
  refine pe_imp (pe_make hmk hF hr hg F.mg hb hd (pass0 (X := X)) ha hdb he hpl) fun σ H Q ⟨lo, hM, q⟩ => ⟨lo, hM, fun vs H1 s1 m1 z1 x dx nx ndx ne => ?_⟩
  have e1 : Sx H1 (upd H1 dx (.own x)) := Sx.new ndx
  have nx' : upd H1 dx (.own x) x = none := by rw [upd_ne ne.symm]; exact nx
  have e2 : Sx (upd H1 dx (.own x)) (upd (upd H1 dx (.own x)) x (.ins C dx [])) := Sx.new nx'
  have e12 := e1.trans e2
  refine ⟨.obj x :: (ds ++ dd), M1.put x (.ins C []), .cons (.obj x) ((z1.mono e12).app (hz _)), (m1.new ndx).put e2 ⟨dx, [], upd_same, .nil⟩, ?_⟩
  refine hm _ _ _ _ (fun d M' ⟨ed, hP⟩ v H' s3 m3 z3 => ?_) (hs x (m1.none nx))
  subst ed
  cases z3
  exact ⟨rfl, q _ H' _ M' ((s1.trans e12).trans s3) m3 (.obj x) hP⟩
/-- C(..): nobody will change it -/
theorem e_make {fs : List (Str × D)} (F : Cg X.prog X.w X.K X.mg X.base k n C ps dd sp) (hr : Room (k + 1) X.A) (ha : EvA X Γ M (e :: es) ds M1)
    (hs : ∀ x, M1 x = none → ∀ Q : D → Mem → Prop, (∀ M', Mem.Le M1 M' → M' x = some (.ins C fs) → Q .non M') → sp (.obj x :: (ds ++ dd)) (M1.put x (.ins C [])) Q) (hm : ∀ ds M (Q Q' : D → Mem → Prop), (∀ d M', Q d M' → Q' d M') → sp ds M Q → sp ds M Q')
    (hg : Gl X n := by rfl) (hdb : (n == ("__debug__" : Str)) = false := by decide) (he : starEach (e :: es) X.env = (false, eval e X.env) :: starEach es X.env := by rfl) (hpl : (backTo pos (starEach es X.env)).any (·.1) = false := by rfl) :
    Ev X Γ M (.Call (.Name n p) (e :: es) [] pos) (.ins C fs) M1 := by
  have h := e_makeP (Γ := Γ) (M := M) (p := p) (pos := pos) (P := fun d M' => ∃ x, d = .obj x ∧ M1 x = none ∧ Mem.Le M1 M' ∧ M' x = some (.ins C fs)) F hr ha (fun x hx => hs x hx _ fun M' a b => ⟨rfl, x, rfl, hx, a, b⟩) hm hg hdb he hpl
  refine ⟨fun pins s σ H Q I ⟨lo, hM, q⟩ => thn (h.run pins s σ H (fun v H1 => ∃ x M', v = .ref x ∧ Sx H H1 ∧ Has X.K H1 M' ∧ M1 x = none ∧ Mem.Le M1 M' ∧ M' x = some (.ins C fs)) I ⟨lo, hM, fun v H1 d M' s1 m1 z1 ⟨x, ed, a, b, c⟩ => ?_⟩) fun u s1 ⟨v, H1, I1, rv, x, M', ev, sx, m1, a, b, c⟩ => ?_⟩
  · subst ed
    cases z1
    exact ⟨x, M', rfl, s1, m1, a, b, c⟩
  · subst ev
    obtain ⟨dx, vs, e1, z1⟩ := m1 x _ c
    obtain ⟨od, I2⟩ := I1.lock e1 True.intro
    have s2 : Sx H1 (upd H1 x (.frz od (.ins C dx vs))) := Sx.put e1 True.intro
    exact ⟨.ref x, _, I2, rv, q _ _ (sx.trans s2) ((m1.le b).drop s2 a) (.ins upd_same (z1.mono s2))⟩

/-! ### built-ins by value -/
def RcD (K : PySem.W.Frag) (r : List V → Hp → VK → Prop) (ds : List D) (z : D) : Prop := ∀ (H : Hp) (M : Mem) (vs : List V), DzA K H vs ds → Has K H M → ∀ Q : VK, (∀ w H', Sx H H' → Has K H' M → Dz K H' w z → Q w H') → r vs H Q
theorem e_cb {id : String} {r : List V → Hp → VK → Prop} (hc : CallR X (.builtin id) r) (hr : RcD X.K r ds z) (hm : X.mg n = none) (hv : bootBuiltins n = some (.builtin id)) (ha : EvA X Γ M (e :: es) ds M1) (hg : Gl X n := by rfl) (hn : n ≠ "__name__" := by decide) (hdb : (n == ("__debug__" : Str)) = false := by decide)
    (he : starEach (e :: es) X.env = (false, eval e X.env) :: starEach es X.env := by rfl) (hpl : (backTo pos (starEach es X.env)).any (·.1) = false := by rfl) : Ev X Γ M (.Call (.Name n p) (e :: es) [] pos) z M1 :=
  pe_imp (pe_callB hc hg hm hv ha hn hdb he hpl) fun σ H Q ⟨lo, hM, q⟩ => ⟨lo, hM, fun vs H1 s1 m1 z1 => hr H1 M1 vs z1 m1 Q fun w H2 s2 m2 z2 => q w H2 (s1.trans s2) m2 z2⟩
theorem e_ct {T : String} {r : List V → Hp → VK → Prop} (hc : CallR X (.type T) r) (hr : RcD X.K r ds z) (hm : X.mg n = none) (hv : bootBuiltins n = some (.type T)) (ha : EvA X Γ M (e :: es) ds M1) (hg : Gl X n := by rfl) (hn : n ≠ "__name__" := by decide) (hdb : (n == ("__debug__" : Str)) = false := by decide)
    (he : starEach (e :: es) X.env = (false, eval e X.env) :: starEach es X.env := by rfl) (hpl : (backTo pos (starEach es X.env)).any (·.1) = false := by rfl) : Ev X Γ M (.Call (.Name n p) (e :: es) [] pos) z M1 :=
  pe_imp (pe_callTy hc hg hm hv ha hn hdb he hpl) fun σ H Q ⟨lo, hM, q⟩ => ⟨lo, hM, fun vs H1 s1 m1 z1 => hr H1 M1 vs z1 m1 Q fun w H2 s2 m2 z2 => q w H2 (s1.trans s2) m2 z2⟩
/-- its answer a new list -/
def RcN (K : PySem.W.Frag) (r : List V → Hp → VK → Prop) (ds zs : List D) : Prop := ∀ (H : Hp) (M : Mem) (vs : List V), DzA K H vs ds → Has K H M → ∀ Q : VK, (∀ p H' xs, Sx H H' → Has K H' M → M p = none → H' p = some (.lst xs) → DzA K H' xs zs → Q (.ref p) H') → r vs H Q
theorem n_ct {zs : List D} {T : String} {r : List V → Hp → VK → Prop} (hc : CallR X (.type T) r) (hr : RcN X.K r ds zs) (hm : X.mg n = none) (hv : bootBuiltins n = some (.type T)) (ha : EvA X Γ M (e :: es) ds M1) (hg : Gl X n := by rfl) (hn : n ≠ "__name__" := by decide) (hdb : (n == ("__debug__" : Str)) = false := by decide)
    (he : starEach (e :: es) X.env = (false, eval e X.env) :: starEach es X.env := by rfl) (hpl : (backTo pos (starEach es X.env)).any (·.1) = false := by rfl) : EvN X Γ M (.Call (.Name n p) (e :: es) [] pos) zs M1 :=
  pe_imp (pe_callTy hc hg hm hv ha hn hdb he hpl) fun σ H Q ⟨lo, hM, q⟩ => ⟨lo, hM, fun vs H1 s1 m1 z1 => hr H1 M1 vs z1 m1 Q fun w H2 xs s2 m2 n2 h2 z2 => q w H2 xs (s1.trans s2) m2 n2 h2 z2⟩
end
end PR

set_option Elab.async false
set_option linter.all false
set_option maxRecDepth 100000
set_option maxHeartbeats 4000000
/-! PR, part 4: statements, loops, comprehensions, defs. -/
namespace PR
open PySem PySem.Spec PyProof.Rows L2

/-- what is wanted behind statements, by data -/
structure En where
  nx : Gm → Mem → Prop
  rt : D → Mem → Prop
  bk : Gm → Mem → Prop := fun _ _ => False
  ct : Gm → Mem → Prop := fun _ _ => False
abbrev En.thn (R : En) (N : Gm → Mem → Prop) : En := ⟨N, R.rt, R.bk, R.ct⟩
/-- the ends' own wishes, kept by the wish by data, from a heap on -/
structure Keep (K : PySem.W.Frag) (H : Hp) (R : En) (E : Ends) : Prop where
  nx : ∀ σ' H' Γ' M', Sx H H' → Lo K H' σ' Γ' → Has K H' M' → R.nx Γ' M' → E.nx σ' H'
  rt : ∀ v H' d M', Sx H H' → Has K H' M' → Dz K H' v d → R.rt d M' → E.rt v H'
  bk : ∀ σ' H' Γ' M', Sx H H' → Lo K H' σ' Γ' → Has K H' M' → R.bk Γ' M' → E.bk σ' H'
  ct : ∀ σ' H' Γ' M', Sx H H' → Lo K H' σ' Γ' → Has K H' M' → R.ct Γ' M' → E.ct σ' H'
theorem Keep.mono {K : PySem.W.Frag} {H H1 : Hp} {R : En} {E : Ends} (k : Keep K H R E) (s : Sx H H1) : Keep K H1 R E :=
  ⟨fun σ' H' Γ' M' a => k.nx σ' H' Γ' M' (s.trans a), fun v H' d M' a => k.rt v H' d M' (s.trans a), fun σ' H' Γ' M' a => k.bk σ' H' Γ' M' (s.trans a), fun σ' H' Γ' M' a => k.ct σ' H' Γ' M' (s.trans a)⟩
def tJ (K : PySem.W.Frag) (Γ : Gm) (M : Mem) (R : En) : TS := fun E σ H => Lo K H σ Γ ∧ Has K H M ∧ Keep K H R E
abbrev Js (X : Cx) (Γ : Gm) (M : Mem) (st : Stmt) (R : En) : Prop := PS X st (tJ X.K Γ M R)
abbrev Jss (X : Cx) (Γ : Gm) (M : Mem) (sts : List Stmt) (R : En) : Prop := PSs X sts (tJ X.K Γ M R)

section
variable {X : Cx} {Γ : Gm} {M M1 M2 M3 : Mem} {a b e o : Expr} {es : List Expr} {x y z d : D} {ds dd : List D} {pos apos p pos' : Pos} {k : Nat} {n m : Str} {C : Addr} {R : En} {st : Stmt} {rest sa sb : List Stmt}
theorem j_nil (h : R.nx Γ M) : Jss X Γ M [] R := pss_imp pss_nil fun E σ H ⟨lo, hm, k⟩ => k.nx σ H Γ M (Sx.refl H) lo hm h
theorem j_imp {R' : En} (h : Jss X Γ M rest R) (hn : ∀ Γ' M', R.nx Γ' M' → R'.nx Γ' M') (hr : ∀ d M', R.rt d M' → R'.rt d M') (hb : ∀ Γ' M', R.bk Γ' M' → R'.bk Γ' M') (hc : ∀ Γ' M', R.ct Γ' M' → R'.ct Γ' M') : Jss X Γ M rest R' :=
  pss_imp h fun E σ H ⟨lo, hm, k⟩ => ⟨lo, hm, fun σ' H' Γ' M' a b c q => k.nx σ' H' Γ' M' a b c (hn _ _ q), fun v H' d M' a b c q => k.rt v H' d M' a b c (hr _ _ q), fun σ' H' Γ' M' a b c q => k.bk σ' H' Γ' M' a b c (hb _ _ q), fun σ' H' Γ' M' a b c q => k.ct σ' H' Γ' M' a b c (hc _ _ q)⟩
/-- less is known of the memory -/
theorem j_le (h : Jss X Γ M1 rest R) (hle : Mem.Le M1 M) : Jss X Γ M rest R := pss_imp h fun E σ H ⟨lo, hm, k⟩ => ⟨lo, hm.le hle, k⟩
theorem pss_ex {ι : Sort _} {t : ι → TS} (h : ∀ i, PSs X rest (t i)) : PSs X rest (fun E σ H => ∃ i, t i E σ H) := ⟨fun pins s σ H E I ⟨i, q⟩ => (h i).run pins s σ H E I q⟩
/-- a statement, then the rest -/
theorem j_cons (h : Js X Γ M st (R.thn fun Γ' M' => Jss X Γ' M' rest R)) : Jss X Γ M (st :: rest) R := by
  have hu : PSs X rest (fun E σ H => ∃ q : { p : Gm × Mem // Jss X p.1 p.2 rest R }, tJ X.K q.1.1 q.1.2 R E σ H) := pss_ex fun q => q.2
  refine pss_imp (pss_cons h hu) fun E σ H ⟨lo, hm, k⟩ => ⟨lo, hm, fun σ' H' Γ' M' s1 lo' m' q => ⟨⟨(Γ', M'), q⟩, lo', m', k.mono s1⟩, k.rt, k.bk, k.ct⟩
/-- a statement that goes on -/
theorem j_step {t : TS} (h : PS X st t) (k : ∀ (E : Ends) (σ : L2.St) (H : Hp), Lo X.K H σ Γ → Has X.K H M → (∀ σ' H' Γ' M', Sx H H' → Lo X.K H' σ' Γ' → Has X.K H' M' → Jss X Γ' M' rest R → E.nx σ' H') → t E σ H) : Jss X Γ M (st :: rest) R :=
  j_cons (ps_imp h fun E σ H ⟨lo, hm, q⟩ => k E σ H lo hm q.nx)
/-- name = e -/
theorem j_set (i : Nat) (he : Ev X Γ M e d M1) (hk : Jss X (Γ.set i (some d)) M1 rest R) (hi : X.N[i]? = some n := by rfl) (hN : X.N.Nodup := by assumption) (hx : Loc X.env.scope n := by first | exact Or.inl rfl | exact Or.inr rfl) (hs : swapsWith e (some (.Name n pos')) pos.line X.env = pure false := by rfl)
    (hf : X.fn n = true ∨ X.env.scope.names.lookup n = some .local := by first | exact .inl rfl | exact .inr rfl) : Jss X Γ M (.Assign [.Name n pos'] e pos :: rest) R :=
  j_step (ps_set (i := i) hN hi hx he hs hf) fun E σ H lo hm k => ⟨lo, hm, fun v H1 s1 m1 z1 => k _ _ _ _ s1 ((lo.mono s1).set z1) m1 hk⟩
theorem j_setP (i : Nat) {P : D → Mem → Prop} (he : EvP X Γ M e P) (hk : ∀ d M1, P d M1 → Jss X (Γ.set i (some d)) M1 rest R) (hi : X.N[i]? = some n := by rfl) (hN : X.N.Nodup := by assumption) (hx : Loc X.env.scope n := by first | exact Or.inl rfl | exact Or.inr rfl) (hs : swapsWith e (some (.Name n pos')) pos.line X.env = pure false := by rfl)
    (hf : X.fn n = true ∨ X.env.scope.names.lookup n = some .local := by first | exact .inl rfl | exact .inr rfl) : Jss X Γ M (.Assign [.Name n pos'] e pos :: rest) R :=
  j_step (ps_set (i := i) hN hi hx he hs hf) fun E σ H lo hm k => ⟨lo, hm, fun v H1 d M1 s1 m1 z1 hP => k _ _ _ _ s1 ((lo.mono s1).set z1) m1 (hk d M1 hP)⟩
/-- name = a new list that may change -/
theorem j_setN (i : Nat) (he : EvN X Γ M e ds M1) (hk : ∀ l, M1 l = none → Jss X (Γ.set i (some (.obj l))) (M1.put l (.lst ds)) rest R) (hi : X.N[i]? = some n := by rfl) (hN : X.N.Nodup := by assumption) (hx : Loc X.env.scope n := by first | exact Or.inl rfl | exact Or.inr rfl) (hs : swapsWith e (some (.Name n pos')) pos.line X.env = pure false := by rfl)
    (hf : X.fn n = true ∨ X.env.scope.names.lookup n = some .local := by first | exact .inl rfl | exact .inr rfl) : Jss X Γ M (.Assign [.Name n pos'] e pos :: rest) R :=
  j_step (ps_set (i := i) hN hi hx he hs hf) fun E σ H lo hm k => ⟨lo, hm, fun p H1 xs s1 m1 n1 h1 z1 => k _ _ _ _ s1 ((lo.mono s1).set (.obj p)) (fun a o q => by
    by_cases ea : a = p
    · rw [ea, put_same] at q
      cases q
      rw [ea]
      exact ⟨xs, h1, z1⟩
    · rw [put_ne ea] at q
      exact m1 a o q) (hk p n1)⟩
/-- a new list, of an expression that may be put anywhere -/
theorem ev_n (h : EvN X Γ M e ds M1) : EvP X Γ M e fun d M' => ∃ l, M1 l = none ∧ d = .obj l ∧ M' = M1.put l (.lst ds) :=
  pe_imp h fun σ H Q ⟨lo, hm, q⟩ => ⟨lo, hm, fun p H1 xs s1 m1 n1 h1 z1 => q _ H1 _ _ s1 (fun a o q => by
    by_cases ea : a = p
    · rw [ea, put_same] at q
      cases q
      rw [ea]
      exact ⟨xs, h1, z1⟩
    · rw [put_ne ea] at q
      exact m1 a o q) (.obj p) ⟨p, n1, rfl, rfl⟩⟩
/-- return e -/
theorem j_ret (he : Ev X Γ M e d M1) (hk : R.rt d M1) : Jss X Γ M (.Return (some e) pos :: rest) R :=
  j_cons (ps_imp (ps_ret he) fun E σ H ⟨lo, hm, k⟩ => ⟨lo, hm, fun v H1 s1 m1 z1 => k.rt v H1 d M1 s1 m1 z1 hk⟩)
theorem j_retP {P : D → Mem → Prop} (he : EvP X Γ M e P) (hk : ∀ d M1, P d M1 → R.rt d M1) : Jss X Γ M (.Return (some e) pos :: rest) R :=
  j_cons (ps_imp (ps_ret he) fun E σ H ⟨lo, hm, k⟩ => ⟨lo, hm, fun v H1 d M1 s1 m1 z1 hP => k.rt v H1 d M1 s1 m1 z1 (hk d M1 hP)⟩)
theorem j_retN (hk : R.rt .non M) : Jss X Γ M (.Return none pos :: rest) R :=
  j_cons (ps_imp ps_retN fun E σ H ⟨lo, hm, k⟩ => k.rt .non H .non M (Sx.refl H) hm .non hk)
theorem j_expr (he : Ev X Γ M e d M1) (hk : Jss X Γ M1 rest R) (hs : swapsWith e none pos.line X.env = pure false := by rfl) : Jss X Γ M (.Expr e pos :: rest) R :=
  j_step (ps_expr he hs) fun E σ H lo hm k => ⟨lo, hm, fun v H1 s1 m1 z1 => k _ _ _ _ s1 (lo.mono s1) m1 hk⟩
theorem j_exprP {P : D → Mem → Prop} (he : EvP X Γ M e P) (hk : ∀ d M1, P d M1 → Jss X Γ M1 rest R) (hs : swapsWith e none pos.line X.env = pure false := by rfl) : Jss X Γ M (.Expr e pos :: rest) R :=
  j_step (ps_expr he hs) fun E σ H lo hm k => ⟨lo, hm, fun v H1 d M1 s1 m1 z1 hP => k _ _ _ _ s1 (lo.mono s1) m1 (hk d M1 hP)⟩
theorem j_pass (hk : Jss X Γ M rest R) : Jss X Γ M (.Pass pos :: rest) R := j_step ps_pass fun E σ H lo hm k => k _ _ _ _ (Sx.refl H) lo hm hk
/-- if -/
theorem j_if {q : Bool} {c : Expr} (hc : EvT X Γ M c q M1) (h1 : q = true → Jss X Γ M1 sa (R.thn fun Γ' M' => Jss X Γ' M' rest R)) (h0 : q = false → Jss X Γ M1 sb (R.thn fun Γ' M' => Jss X Γ' M' rest R)) : Jss X Γ M (.If c sa sb pos :: rest) R := by
  cases q with
  | true => exact j_cons (ps_imp (ps_if hc (h1 rfl) pss_no) fun E σ H ⟨lo, hm, k⟩ => ⟨lo, hm, fun H1 s1 m1 => iteT ⟨lo.mono s1, m1, k.mono s1⟩⟩)
  | false => exact j_cons (ps_imp (ps_if hc pss_no (h0 rfl)) fun E σ H ⟨lo, hm, k⟩ => ⟨lo, hm, fun H1 s1 m1 => iteF ⟨lo.mono s1, m1, k.mono s1⟩⟩)
/-- what can't be -/
theorem j_false (h : False) : Jss X Γ M rest R := h.elim
theorem j_break (h : R.bk Γ M) : Jss X Γ M (.Break pos :: rest) R := j_cons (ps_imp ps_break fun E σ H ⟨lo, hm, k⟩ => k.bk _ _ _ _ (Sx.refl H) lo hm h)
theorem j_cont (h : R.ct Γ M) : Jss X Γ M (.Continue pos :: rest) R := j_cons (ps_imp ps_continue fun E σ H ⟨lo, hm, k⟩ => k.ct _ _ _ _ (Sx.refl H) lo hm h)
/-- self.f = e -/
theorem j_fld {l : Addr} {fs : List (Str × D)} {f : Str} (he : Ev X Γ M e d M1) (ho : Ev X Γ M1 o (.obj l) M2) (hi : M2 l = some (.ins C fs)) (c : Cls X.K C) (hn : NoAttr X.K C f) (hz : fs.length < 1000) (hk : Jss X Γ (M2.put l (.ins C (putD f d fs))) rest R)
    (hs : swapsWith e (some (.Attribute o f pos')) pos.line X.env = pure false := by rfl) : Jss X Γ M (.Assign [.Attribute o f pos'] e pos :: rest) R :=
  j_step (ps_fld ho he hs) fun E σ H lo hm k => ⟨lo, hm, fun v H1 s1 m1 z1 => ⟨lo.mono s1, m1, fun u H2 s2 m2 z2 => by
    cases z2
    obtain ⟨dx, vs, e2, t2⟩ := m2 l _ hi
    have s3 : Sx H2 (upd H2 l (.ins C dx (putF f v vs))) := Sx.put e2 True.intro
    exact ⟨l, C, dx, vs, rfl, e2, c, hn, by rw [t2.length]; exact hz, k _ _ _ _ ((s1.trans s2).trans s3) (((lo.mono s1).mono s2).mono s3) (m2.put (m := .ins C (putD f d fs)) s3 ⟨dx, _, upd_same, (t2.put (z1.mono s2)).mono s3⟩) hk⟩⟩⟩
theorem j_fldP {l : Addr} {f : Str} {P : D → Mem → Prop} (he : EvP X Γ M e P) (ho : ∀ d M1, P d M1 → ∃ fs, Ev X Γ M1 o (.obj l) M1 ∧ M1 l = some (.ins C fs) ∧ fs.length < 1000 ∧ Jss X Γ (M1.put l (.ins C (putD f d fs))) rest R) (c : Cls X.K C) (hn : NoAttr X.K C f)
    (hs : swapsWith e (some (.Attribute o f pos')) pos.line X.env = pure false := by rfl) : Jss X Γ M (.Assign [.Attribute o f pos'] e pos :: rest) R := by
  have hoE : PE X o (fun σ H Q => ∃ q : { p : Mem × Mem // Ev X Γ p.1 o (.obj l) p.2 }, tD X.K Γ q.1.1 (.obj l) q.1.2 σ H Q) := ⟨fun pins s σ H Q I ⟨q, h⟩ => q.2.run pins s σ H Q I h⟩
  refine j_step (ps_fld hoE he hs) fun E σ H lo hm k => ⟨lo, hm, fun v H1 d M1 s1 m1 z1 hP => ?_⟩
  obtain ⟨fs, hE, hi, hz, hk⟩ := ho d M1 hP
  refine ⟨⟨(M1, M1), hE⟩, lo.mono s1, m1, fun u H2 s2 m2 z2 => ?_⟩
  cases z2
  obtain ⟨dx, vs, e2, t2⟩ := m2 l _ hi
  have s3 : Sx H2 (upd H2 l (.ins C dx (putF f v vs))) := Sx.put e2 True.intro
  exact ⟨l, C, dx, vs, rfl, e2, c, hn, by rw [t2.length]; exact hz, k _ _ _ _ ((s1.trans s2).trans s3) (((lo.mono s1).mono s2).mono s3) (m2.put (m := .ins C (putD f d fs)) s3 ⟨dx, _, upd_same, (t2.put (z1.mono s2)).mono s3⟩) hk⟩
/-- x += e, ints -/
theorem j_augI (i : Nat) {u v : Int} {op : Operator} {f : Int → Int → Int} (hop : PIp X op (ipI f)) (hx : Γ[i]? = some (some (.int u))) (he : Ev X Γ M e (.int v) M1) (hk : Jss X (Γ.set i (some (.int (f u v)))) M1 rest R) (hi : X.N[i]? = some n := by rfl) (hN : X.N.Nodup := by assumption)
    (hl : Loc X.env.scope n := by first | exact Or.inl rfl | exact Or.inr rfl) (hf : X.fn n = true ∨ X.env.scope.names.lookup n = some .local := by first | exact .inl rfl | exact .inr rfl) : Jss X Γ M (.AugAssign (.Name n pos') op e pos :: rest) R :=
  j_step (ps_aug (i := i) hN hi hl he hop hf) fun E σ H lo hm k => by
    obtain ⟨w, e1, z⟩ := lo.at_ i _ hx
    cases z
    refine ⟨_, e1, lo, hm, fun y H1 s1 m1 z1 => ?_⟩
    cases z1
    exact ⟨u, v, rfl, rfl, k _ _ _ _ s1 ((lo.mono s1).set (.int _)) m1 hk⟩

/-! ### targets -/
/-- the slots behind a target; js: those that it may change -/
abbrev Tg := D → Gm → Option Gm
structure Only (js : List Nat) (σ σ' : L2.St) : Prop where
  len : σ'.length = σ.length
  at_ : ∀ i : Nat, i ∉ js → σ'[i]? = σ[i]?
theorem Only.refl (js : List Nat) (σ : L2.St) : Only js σ σ := ⟨rfl, fun _ _ => rfl⟩
theorem Only.trans {is js : List Nat} {σ σ1 σ2 : L2.St} (a : Only is σ σ1) (b : Only js σ1 σ2) : Only (is ++ js) σ σ2 := ⟨b.len.trans a.len, fun i hi => by
  simp only [List.mem_append, not_or] at hi
  exact (b.at_ i hi.2).trans (a.at_ i hi.1)⟩
def gT (K : PySem.W.Frag) (js : List Nat) (f : Tg) : TG := fun v σ H Q => ∃ x Γ Γ', Dz K H v x ∧ Lo K H σ Γ ∧ f x Γ = some Γ' ∧ ∀ σ', Lo K H σ' Γ' → Only js σ σ' → Q σ' H
def gTs (K : PySem.W.Frag) (js : List Nat) (f : List D → Gm → Option Gm) : TGs := fun vs σ H Q => ∃ xs Γ Γ', DzA K H vs xs ∧ Lo K H σ Γ ∧ f xs Γ = some Γ' ∧ ∀ σ', Lo K H σ' Γ' → Only js σ σ' → Q σ' H
abbrev Tgt (X : Cx) (t : Expr) (js : List Nat) (f : Tg) : Prop := PG X t (gT X.K js f)
abbrev Tgts (X : Cx) (t : List Expr) (js : List Nat) (f : List D → Gm → Option Gm) : Prop := PGs X t (gTs X.K js f)
theorem pg_imp {t : Expr} {f g : TG} (h : PG X t f) (k : ∀ v σ H Q, g v σ H Q → f v σ H Q) : PG X t g := ⟨fun pins s σ H v u Q I r q => h.run pins s σ H v u Q I r (k v σ H Q q)⟩
theorem pgs_imp {t : List Expr} {f g : TGs} (h : PGs X t f) (k : ∀ v σ H Q, g v σ H Q → f v σ H Q) : PGs X t g := ⟨fun pins s σ H v u Q I r q => h.run pins s σ H v u Q I r (k v σ H Q q)⟩
def fN (i : Nat) : Tg := fun x Γ => some (Γ.set i (some x))
def fNil : List D → Gm → Option Gm
  | [], Γ => some Γ
  | _, _ => none
def fCons (f : Tg) (g : List D → Gm → Option Gm) : List D → Gm → Option Gm
  | x :: r, Γ => (match f x Γ with | some Γ1 => g r Γ1 | none => none)
  | [], _ => none
def fTup (n : Nat) (f : List D → Gm → Option Gm) : Tg
  | .tup xs, Γ => if xs.length = n then f xs Γ else none
  | _, _ => none
theorem tg_n (i : Nat) (hN : X.N.Nodup := by assumption) (hi : X.N[i]? = some n := by rfl) (hx : Loc X.env.scope n := by first | exact Or.inl rfl | exact Or.inr rfl) (hf : X.fn n = true ∨ X.env.scope.names.lookup n = some .local := by first | exact .inl rfl | exact .inr rfl) : Tgt X (.Name n pos) [i] (fN i) :=
  pg_imp (pg_name (i := i) hN hi hx hf) fun v σ H Q ⟨x, Γ, Γ', z, lo, e, q⟩ => by
    cases e
    exact q _ (lo.set z) ⟨by simp, fun j hj => by
      simp only [List.mem_singleton] at hj
      exact List.getElem?_set_ne (fun e => hj e.symm)⟩
theorem tgs_nil : Tgts X [] [] fNil := pgs_imp pgs_nil fun vs σ H Q ⟨xs, Γ, Γ', z, lo, e, q⟩ => by
  cases xs with
  | nil =>
    cases z
    cases e
    exact ⟨rfl, q _ lo (Only.refl _ _)⟩
  | cons _ _ => cases e
theorem tgs_cons {is js : List Nat} {f : Tg} {g : List D → Gm → Option Gm} (h1 : Tgt X e is f) (h2 : Tgts X es js g) (hs : (assignEach (e :: es) X.env).map (·.2) = assign e X.env :: (assignEach es X.env).map (·.2) := by rfl) : Tgts X (e :: es) (is ++ js) (fCons f g) :=
  pgs_imp (pgs_cons h1 h2 hs) fun vs σ H Q ⟨xs, Γ, Γ', z, lo, q, k⟩ => by
    cases xs with
    | nil => cases q
    | cons x r =>
      cases z with
      | cons z1 z2 =>
        have q : (match f x Γ with | some Γ1 => g r Γ1 | none => none) = some Γ' := q
        cases e1 : f x Γ with
        | none =>
          rw [e1] at q
          cases q
        | some Γ1 =>
          rw [e1] at q
          exact ⟨_, _, rfl, x, Γ, Γ1, z1, lo, e1, fun σ1 lo1 o1 => ⟨r, Γ1, Γ', z2, lo1, q, fun σ2 lo2 o2 => k σ2 lo2 (o1.trans o2)⟩⟩
theorem tg_tup {js : List Nat} {g : List D → Gm → Option Gm} {nn : Nat} {kk} (h : Tgts X es js g) (hc : X.calm = true := by rfl) (hn : (assignEach es X.env).length = nn := by rfl) (hst : (assignEach es X.env).findIdx? (·.1) = none := by rfl) : Tgt X (.Tuple es kk pos) js (fTup nn g) :=
  pg_imp (pg_tup hc h hn hst) fun v σ H Q ⟨x, Γ, Γ', z, lo, q, k⟩ => by
    cases x with
    | tup xs =>
      cases z with
      | tup hq za =>
        have q : (if xs.length = nn then g xs Γ else none) = some Γ' := q
        by_cases hl : xs.length = nn
        · rw [if_pos hl] at q
          exact ⟨_, _, rfl, hq, by rw [za.length]; exact hl, xs, Γ, Γ', za, lo, q, k⟩
        · rw [if_neg hl] at q
          cases q
    | _ => cases q
/-- (a, b) = e -/
theorem j_unpack {js : List Nat} {f : Tg} {t : Expr} {Γ' : Gm} (he : Ev X Γ M e d M1) (ht : Tgt X t js f) (hf : f d Γ = some Γ') (hk : Jss X Γ' M1 rest R) (hs : swapsWithSole [t] e pos.line X.env = pure false := by rfl) (hw : swappedStores [t] e X.env = pure none := by rfl)
    (h1 : (assignEach [t] X.env).map (·.2) = [assign t X.env] := by rfl) : Jss X Γ M (.Assign [t] e pos :: rest) R :=
  j_step (ps_asg he ht hs hw h1) fun E σ H lo hm k => ⟨lo, hm, fun v H1 s1 m1 z1 => ⟨d, Γ, Γ', z1, lo.mono s1, hf, fun σ' lo' _ => k _ _ _ _ s1 lo' m1 hk⟩⟩

/-! ### what is gone through -/
/-- the walk over frozen data -/
def iD (K : PySem.W.Frag) (Γ : Gm) (M : Mem) (ds : List D) (M' : Mem) : TI := fun σ H R => Lo K H σ Γ ∧ Has K H M ∧ ∀ (J : It) H1, Sx H H1 → Has K H1 M' →
  (∀ i H', Sx H1 H' → i < ds.length → J.go i H') → (∀ i H', Sx H1 H' → ds.length ≤ i → J.stop i H') → (∀ i H' x H'', Sx H1 H' → J.yld i H' x H'' → ∀ d, ds[i]? = some d → Sx H' H'' ∧ Dz K H'' x d ∧ ∀ N, Has K H' N → Has K H'' N) → R J H1
abbrev Wk (X : Cx) (tg : Expr) (Γ : Gm) (M : Mem) (it : Expr) (ds : List D) (M' : Mem) : Prop := PI X tg it (iD X.K Γ M ds M')
theorem pi_imp {tg it : Expr} {t t' : TI} (h : PI X tg it t) (k : ∀ σ H R, t' σ H R → t σ H R) : PI X tg it t' := ⟨fun pins s σ H R I q => h.run pins s σ H R I (k σ H R q)⟩
theorem k_lst {tg : Expr} (h : Ev X Γ M e (.lst ds) M1) : Wk X tg Γ M e ds M1 := pi_imp (pi_list h) fun σ H R ⟨lo, hm, q⟩ => ⟨lo, hm, fun v H1 s1 m1 z1 => by
  cases z1 with
  | @lst a xs _ hq za =>
    refine ⟨a, rfl, ⟨xs, hq.sq⟩, q _ H1 s1 m1 (fun i H' s2 hi => ?_) (fun i H' s2 hi => ?_) (fun i H' x H'' s2 y d hd => ?_)⟩
    · obtain ⟨v, hv, _⟩ := za.at_ (List.getElem?_eq_getElem hi)
      exact ⟨xs, v, (s2.sqf hq).sq, hv⟩
    · exact ⟨xs, (s2.sqf hq).sq, by rw [za.length]; exact hi⟩
    · obtain ⟨e1, y⟩ := y
      subst e1
      have hx := y xs (s2.sqf hq).sq
      obtain ⟨d', hd', zd⟩ := za.of_at hx
      rw [hd] at hd'
      cases hd'
      exact ⟨Sx.refl _, zd.mono s2, fun N hN => hN⟩⟩
theorem k_tup {tg : Expr} (h : Ev X Γ M e (.tup ds) M1) : Wk X tg Γ M e ds M1 := pi_imp (pi_tup h) fun σ H R ⟨lo, hm, q⟩ => ⟨lo, hm, fun v H1 s1 m1 z1 => by
  cases z1 with
  | @tup a xs _ hq za =>
    refine ⟨a, rfl, ⟨xs, hq⟩, q _ H1 s1 m1 (fun i H' s2 hi => ?_) (fun i H' s2 hi => ?_) (fun i H' x H'' s2 y d hd => ?_)⟩
    · obtain ⟨v, hv, _⟩ := za.at_ (List.getElem?_eq_getElem hi)
      exact ⟨xs, v, s2.sqt hq, hv⟩
    · exact ⟨xs, s2.sqt hq, by rw [za.length]; exact hi⟩
    · obtain ⟨e1, y⟩ := y
      subst e1
      have hx := y xs (s2.sqt hq)
      obtain ⟨d', hd', zd⟩ := za.of_at hx
      rw [hd] at hd'
      cases hd'
      exact ⟨Sx.refl _, zd.mono s2, fun N hN => hN⟩⟩
/-- range(n), range(a, b) -/
def rgD (lo : Int) (n : Nat) : List D := (List.range n).map fun i : Nat => D.int (lo + (i : Int))
theorem rg_len (lo : Int) (n : Nat) : (rgD lo n).length = n := by unfold rgD; rw [List.length_map, List.length_range]
theorem rg_at {lo : Int} {n i : Nat} {d : D} (h : (rgD lo n)[i]? = some d) : i < n ∧ d = .int (lo + (i : Int)) := by
  unfold rgD at h
  rw [List.getElem?_map] at h
  obtain ⟨j, e1, e2⟩ := Option.map_eq_some_iff.mp h
  obtain ⟨h1, h2⟩ := List.getElem?_eq_some_iff.mp e1
  rw [List.length_range] at h1
  rw [List.getElem_range] at h2
  subst h2
  exact ⟨h1, e2.symm⟩
theorem k_rg1 {tg : Expr} {j : Int} (h : EvA X Γ M [a] [.int j] M1) (hj : -(2 ^ 62) ≤ j ∧ j < 2 ^ 62) (hm : X.mg "range" = none) (hg : Gl X "range" := by rfl) (hs : starEach [a] X.env = [(false, eval a X.env)] := by rfl) : Wk X tg Γ M (.Call (.Name "range" p) [a] [] pos) (rgD 0 j.toNat) M1 :=
  pi_imp (pi_range1 hg hm h hs) fun σ H R ⟨lo, hM, q⟩ => ⟨lo, hM, fun vs H1 s1 m1 z1 => by
    cases z1 with
    | cons z1 z2 =>
      cases z1
      cases z2
      refine ⟨j, rfl, hj.1, hj.2, q _ H1 s1 m1 (fun i H' s2 hi => by rw [rg_len] at hi; exact hi) (fun i H' s2 hi => by rw [rg_len] at hi; exact hi) fun i H' x H'' s2 y d hd => ?_⟩
      obtain ⟨e1, e2⟩ := y
      subst e1 e2
      obtain ⟨_, ed⟩ := rg_at hd
      subst ed
      exact ⟨Sx.refl _, .int _, fun N hN => hN⟩⟩
theorem k_rg2 {tg : Expr} {i j : Int} (h : EvA X Γ M [a, b] [.int i, .int j] M1) (hj : -(2 ^ 62) ≤ i ∧ i < 2 ^ 62 ∧ -(2 ^ 62) ≤ j ∧ j < 2 ^ 62) (hm : X.mg "range" = none) (hg : Gl X "range" := by rfl) (hs : starEach [a, b] X.env = [(false, eval a X.env), (false, eval b X.env)] := by rfl) (hs2 : starEach [b] X.env = [(false, eval b X.env)] := by rfl) : Wk X tg Γ M (.Call (.Name "range" p) [a, b] [] pos) (rgD i (j - i).toNat) M1 :=
  pi_imp (pi_range2 hg hm h hs hs2) fun σ H R ⟨lo, hM, q⟩ => ⟨lo, hM, fun vs H1 s1 m1 z1 => by
    cases z1 with
    | cons z1 z2 =>
      cases z1
      cases z2 with
      | cons z2 z3 =>
        cases z2
        cases z3
        refine ⟨i, j, rfl, hj, q _ H1 s1 m1 (fun i H' s2 hi => by rw [rg_len] at hi; exact hi) (fun i H' s2 hi => by rw [rg_len] at hi; exact hi) fun i H' x H'' s2 y d hd => ?_⟩
        obtain ⟨e1, e2⟩ := y
        subst e1 e2
        obtain ⟨_, ed⟩ := rg_at hd
        subst ed
        exact ⟨Sx.refl _, .int _, fun N hN => hN⟩⟩
/-- for t in it: W by the turn -/
theorem j_for {t it : Expr} {body : List Stmt} {js : List Nat} {f : Tg} (W : Nat → Gm → Mem → Prop) (hi : Wk X t Γ M it ds M1) (ht : Tgt X t js f) (h0 : W 0 Γ M1)
    (hb : ∀ i x Γ' M', ds[i]? = some x → W i Γ' M' → ∃ Γ2, f x Γ' = some Γ2 ∧ Jss X Γ2 M' body ⟨W (i + 1), R.rt, fun Γ' M' => Jss X Γ' M' rest R, W (i + 1)⟩)
    (hd : ∀ Γ' M', W ds.length Γ' M' → Jss X Γ' M' rest R) (hp : PassesOwn (model X.prog X.w) X.A X.env X.xe := by exact PassesOwn.never) (hc : X.calm = true := by rfl) (hs : ∀ x, foldedSetIterable it X.env x = pure x := by intro _; rfl) : Jss X Γ M (.For t it body [] pos :: rest) R := by
  -- the body's reading: at some turn, from some slots
  have hbody : PSs X body (fun E σ H => ∃ q : { q : Nat × Gm × Mem // Jss X q.2.1 q.2.2 body ⟨W (q.1 + 1), R.rt, fun Γ' M' => Jss X Γ' M' rest R, W (q.1 + 1)⟩ }, tJ X.K q.1.2.1 q.1.2.2 ⟨W (q.1.1 + 1), R.rt, fun Γ' M' => Jss X Γ' M' rest R, W (q.1.1 + 1)⟩ E σ H) := pss_ex fun q => q.2
  refine j_cons (ps_imp (ps_for hp hc hi ht hbody hs) fun E σ H ⟨lo, hm, k⟩ => ⟨lo, hm, fun J H1 s1 m1 hgo hst hy => ?_⟩)
  refine ⟨fun i mm σ' H' => mm = ds.length - i ∧ i ≤ ds.length ∧ Sx H1 H' ∧ ∃ Γ' M', Lo X.K H' σ' Γ' ∧ Has X.K H' M' ∧ W i Γ' M', ⟨ds.length, by simp, Nat.zero_le _, Sx.refl _, Γ, M1, lo.mono s1, m1, h0⟩, ?_⟩
  rintro i mm σ' H' ⟨rfl, hil, s2, Γ', M', lo', m', w'⟩
  by_cases hlt : i < ds.length
  · refine .inr ⟨hgo i H' s2 hlt, fun σ2 H2 => Sx H1 H2 ∧ ∃ Γ' M', Lo X.K H2 σ2 Γ' ∧ Has X.K H2 M' ∧ W (i + 1) Γ' M', fun σ2 H2 ⟨s3, Γ3, M3, lo3, m3, w3⟩ => ⟨ds.length - (i + 1), by omega, rfl, hlt, s3, Γ3, M3, lo3, m3, w3⟩, fun x H'' y => ?_⟩
    have hx := List.getElem?_eq_getElem hlt
    obtain ⟨s3, zx, keep⟩ := hy i H' x H'' s2 y _ hx
    obtain ⟨Γ2, ef, hj⟩ := hb i _ Γ' M' hx w'
    have m'' := keep _ m'
    refine ⟨_, Γ', Γ2, zx, lo'.mono s3, ef, fun σ3 lo3 _ => ⟨⟨(i, Γ2, M'), hj⟩, lo3, m'', ?_⟩⟩
    have s23 := s2.trans s3
    exact ⟨fun σ4 H4 Γ4 M4 s4 lo4 m4 w4 => ⟨s23.trans s4, Γ4, M4, lo4, m4, w4⟩, fun v H4 d4 M4 s4 m4 z4 r4 => k.rt v H4 d4 M4 ((s1.trans s23).trans s4) m4 z4 r4,
      fun σ4 H4 Γ4 M4 s4 lo4 m4 w4 => k.nx σ4 H4 Γ4 M4 ((s1.trans s23).trans s4) lo4 m4 w4, fun σ4 H4 Γ4 M4 s4 lo4 m4 w4 => ⟨s23.trans s4, Γ4, M4, lo4, m4, w4⟩⟩
  · have ei : i = ds.length := by omega
    subst ei
    exact .inl ⟨hst _ H' s2 (Nat.le_refl _), k.nx σ' H' Γ' M' (s1.trans s2) lo' m' (hd Γ' M' w')⟩

/-! ### list comprehensions -/
theorem ite_t {c A B : Prop} [Decidable c] (h : c) (a : A) : if c then A else B := by rw [if_pos h]; exact a
theorem ite_f {c A B : Prop} [Decidable c] (h : ¬ c) (a : B) : if c then A else B := by rw [if_neg h]; exact a
/-- whatever block it is -/
abbrev Bk (X : Cx) (scope : Scope) (P : Cx → Prop) : Prop := ∀ (s : Shared) (H : Hp) (C : Addr) (cl : List (Str × Addr)) (fp : List Addr), P (X.blk s H scope (compEnvC scope cl C X.env) fp)
abbrev Tss (X : Cx) (Γ : Gm) (M : Mem) (ifs : List Expr) (q : Bool) (M' : Mem) : Prop := PTs X ifs (tT X.K Γ M q M')
theorem ts_nil : Tss X Γ M [] true M := ⟨fun pins s σ H Q I ⟨_, hm, q⟩ => pts_nil.run pins s σ H Q I (q H (Sx.refl H) hm)⟩
theorem ts_one {c : Expr} {q : Bool} (h : EvT X Γ M c q M1) : Tss X Γ M [c] q M1 := pts_one h
/-- what A doesn't tell stays -/
def Fr (A N N' : Mem) : Prop := ∀ a o, A a = none → N a = some o → N' a = some o
theorem wipe_at (σ : L2.St) : ∀ (vs : List Nat) (i : Nat), (L2.wipe σ vs)[i]? = if i ∈ vs then (if i < σ.length then some none else none) else σ[i]?
  | [], i => by simp [L2.wipe]
  | v :: vs, i => by
    have ih := wipe_at σ vs i
    show ((L2.wipe σ vs).set v none)[i]? = _
    by_cases h : v = i
    · subst h
      rw [List.getElem?_set]
      simp only [if_true, wipe_length, List.mem_cons, true_or]
    · rw [List.getElem?_set_ne h, ih]
      have hm : (i ∈ v :: vs) ↔ (i ∈ vs) := by
        simp only [List.mem_cons]
        exact ⟨fun z => z.elim (fun e => absurd e.symm h) id, .inr⟩
      simp only [hm]
theorem wipe_only {σ σ' : L2.St} {vs js : List Nat} (h : Only js (L2.wipe σ vs) σ') (hs : ∀ j ∈ js, j ∈ vs) : L2.wipe σ' vs = L2.wipe σ vs := by
  apply List.ext_getElem?
  intro i
  have hl : σ'.length = σ.length := by rw [h.len, wipe_length]
  rw [wipe_at, wipe_at, hl]
  by_cases hi : i ∈ vs
  · rw [if_pos hi, if_pos hi]
  · rw [if_neg hi, if_neg hi, h.at_ i (fun z => hi (hs i z)), wipe_at, if_neg hi]
/-- a list comprehension's parts -/
structure LcOk (X : Cx) (Γ : Gm) (M : Mem) (elt tg it : Expr) (ifs : List Expr) (scope : Scope) (own : List (Str × Nat)) (ds : List D) (M' : Mem) : Prop where
  ex : ∃ (wi : TI) (g : TG) (tt : TT) (te : TE), PI X tg it wi ∧ BlkOk X.N X.env.scope scope own ∧ (Bk X scope fun Y => PG Y tg g) ∧ (Bk X scope fun Y => PTs Y ifs tt) ∧ (Bk X scope fun Y => PE Y elt te) ∧ (∀ x, foldedSetIterable it X.env x = pure x) ∧ X.N.Nodup ∧ X.calm = true ∧
    ∀ σ H Q, tN X.K Γ M ds M' σ H Q → tLc wi g tt te (own.map (·.2)) σ H Q
theorem lc_n {elt tg it : Expr} {ifs : List Expr} {scope : Scope} {own : List (Str × Nat)} (h : LcOk X Γ M elt tg it ifs scope own ds M1) : EvN X Γ M (.ListComp elt [⟨tg, it, ifs, 0⟩] scope pos) ds M1 := by
  obtain ⟨wi, g, tt, te, hi, ok, hg, ht, he, hs, hN, hc, core⟩ := h.ex
  exact pe_imp (pe_lc hc hN hi ok hg ht he hs) core
theorem lc_is {elt tg it : Expr} {ifs : List Expr} {scope : Scope} {own : List (Str × Nat)} {zs : List D} (h : LcOk X Γ M elt tg it ifs scope own ds M1) (e : ds = zs) : LcOk X Γ M elt tg it ifs scope own zs M1 := e ▸ h
/-- name = [..] -/
theorem j_lc (i : Nat) {elt tg it : Expr} {ifs : List Expr} {scope : Scope} {own : List (Str × Nat)} {py spos : Pos} (h : LcOk X Γ M elt tg it ifs scope own ds M1) (hk : ∀ l, M1 l = none → Jss X (Γ.set i (some (.obj l))) (M1.put l (.lst ds)) rest R)
    (hi : X.N[i]? = some n := by rfl) (hyl : X.env.scope.names.lookup n = some .local := by rfl) (hsw : swapsWith (.ListComp elt [⟨tg, it, ifs, 0⟩] scope pos) (some (.Name n py)) spos.line X.env = pure true := by exact sw_true rfl rfl rfl (by kernel_rfl)) : Jss X Γ M (.Assign [.Name n py] (.ListComp elt [⟨tg, it, ifs, 0⟩] scope pos) spos :: rest) R := by
  obtain ⟨wi, g, tt, te, hi2, ok, hg, ht, he, hs, hN, hc, core⟩ := h.ex
  refine j_step (ps_setLc hc hN hi hyl hsw hi2 ok hg ht he hs) fun E σ H lo hm k => core σ H _ ⟨lo, hm, fun p H1 xs s1 m1 n1 h1 z1 => k _ _ _ _ s1 ((lo.mono s1).set (.obj p)) (fun a o q => ?_) (hk p n1)⟩
  by_cases ea : a = p
  · rw [ea, put_same] at q
    cases q
    rw [ea]
    exact ⟨xs, h1, z1⟩
  · rw [put_ne ea] at q
    exact m1 a o q
/-- a list that nobody changes any more -/
theorem j_fz (i : Nat) {l : Addr} (hi : Γ[i]? = some (some (.obj l))) (hl : M1 l = some (.lst ds)) (hle : Mem.Le M M1) (hn : M l = none) (hk : Jss X (Γ.set i (some (.lst ds))) M rest R) : Jss X Γ M1 rest R :=
  ⟨fun pins s σ H E I ⟨lo, hm, k⟩ => by
    obtain ⟨xs, e1, z1⟩ := hm l _ hl
    obtain ⟨od, I2⟩ := I.lock e1 True.intro
    have s2 : Sx H (upd H l (.frz od (.lst xs))) := Sx.put e1 True.intro
    obtain ⟨v, ev, zv⟩ := lo.at_ i _ hi
    cases zv
    have z : Dz X.K (upd H l (.frz od (.lst xs))) (.ref l) (.lst ds) := .lst ⟨od, upd_same⟩ (z1.mono s2)
    refine hk.run pins s σ _ E I2 ⟨?_, (hm.le hle).drop s2 hn, k.mono s2⟩
    have lo2 := (lo.mono s2).set (i := i) z
    have e : σ.set i (some (.ref l)) = σ := by
      apply List.ext_getElem?
      intro j
      by_cases hj : i = j
      · subst hj
        rw [List.getElem?_set_self (List.getElem?_eq_some_iff.mp ev).1, ev]
      · rw [List.getElem?_set_ne hj]
    rw [e] at lo2
    exact lo2⟩
/-- name = [..], and nobody changes the list -/
theorem j_lcF (i : Nat) {elt tg it : Expr} {ifs : List Expr} {scope : Scope} {own : List (Str × Nat)} {py spos : Pos} (h : LcOk X Γ M elt tg it ifs scope own ds M1) (hk : Jss X (Γ.set i (some (.lst ds))) M1 rest R) (hl : i < Γ.length := by exact Nat.le_of_ble_eq_true rfl)
    (hi : X.N[i]? = some n := by rfl) (hyl : X.env.scope.names.lookup n = some .local := by rfl) (hsw : swapsWith (.ListComp elt [⟨tg, it, ifs, 0⟩] scope pos) (some (.Name n py)) spos.line X.env = pure true := by exact sw_true rfl rfl rfl (by kernel_rfl)) : Jss X Γ M (.Assign [.Name n py] (.ListComp elt [⟨tg, it, ifs, 0⟩] scope pos) spos :: rest) R :=
  j_lc i h (fun l hn => j_fz i (List.getElem?_set_self hl) put_same ((Mem.Le.refl M1).put hn) hn (by rw [List.set_set]; exact hk)) hi hyl hsw
theorem lc {elt tg it : Expr} {ifs : List Expr} {scope : Scope} {own : List (Str × Nat)} {js : List Nat} {f : Tg} (Ms : Nat → Mem) (os : Nat → List D) (hi : Wk X tg Γ M it ds M1)
    (hg : Bk X scope fun Y => Tgt Y tg js f) (hj : ∀ j ∈ js, j ∈ own.map (·.2)) (h0 : Ms 0 = M1) (ho : os 0 = []) (hd : ∀ i l, M1 l = none → Ms i l = none) (hz : ds.length ≤ 100000)
    (hol : ∀ i, (os i).length ≤ i)
    (ifq : Nat → Mem → Bool) (ifm : Nat → Mem → Mem) (el : Nat → Mem → D) (em : Nat → Mem → Mem)
    (hf : ∀ i x, ds[i]? = some x → ∃ Γ2, f x (wipeG Γ (own.map (·.2))) = some Γ2 ∧ ∀ N, Mem.Le (Ms i) N → Bk X scope (fun Y => Tss Y Γ2 N ifs (ifq i N) (ifm i N)) ∧ Fr (Ms i) N (ifm i N) ∧
      (ifq i N = true → Bk X scope (fun Y => Ev Y Γ2 (ifm i N) elt (el i N) (em i N)) ∧ Fr (Ms i) N (em i N) ∧ Mem.Le (Ms (i + 1)) (em i N) ∧ os (i + 1) = os i ++ [el i N]) ∧
      (ifq i N = false → Mem.Le (Ms (i + 1)) (ifm i N) ∧ os (i + 1) = os i))
    (ok : BlkOk X.N X.env.scope scope own := by exact blkOk_by (by kernel_rfl)) (hN : X.N.Nodup := by assumption) (hc : X.calm = true := by rfl) (hs : ∀ x, foldedSetIterable it X.env x = pure x := by intro _; rfl) :
    LcOk X Γ M elt tg it ifs scope own (os ds.length) (Ms ds.length) := by
  -- the test's and the element's reading: at some turn, in some memory
  let tt : TT := fun σ H Q => ∃ q : { q : Gm × Mem × Bool × Mem // Bk X scope fun Y => Tss Y q.1 q.2.1 ifs q.2.2.1 q.2.2.2 }, tT X.K q.1.1 q.1.2.1 q.1.2.2.1 q.1.2.2.2 σ H Q
  let te : TE := fun σ H Q => ∃ q : { q : Gm × Mem × D × Mem // Bk X scope fun Y => Ev Y q.1 q.2.1 elt q.2.2.1 q.2.2.2 }, tD X.K q.1.1 q.1.2.1 q.1.2.2.1 q.1.2.2.2 σ H Q
  have htt : Bk X scope fun Y => PTs Y ifs tt := fun s H C cl fp => ⟨fun pins s' σ H' Q I ⟨q, h⟩ => (q.2 s H C cl fp).run pins s' σ H' Q I h⟩
  have hte : Bk X scope fun Y => PE Y elt te := fun s H C cl fp => ⟨fun pins s' σ H' Q I ⟨q, h⟩ => (q.2 s H C cl fp).run pins s' σ H' Q I h⟩
  refine ⟨_, gT X.K js f, _, _, hi, ok, hg, htt, hte, hs, hN, hc, fun σ H Q ⟨lo, hm, k⟩ => ?_⟩
  refine ⟨lo, hm, fun J H1 s1 m1 hgo hst hy => fun L hL => ?_⟩
  have sL : Sx H1 (upd H1 L (.lst [])) := Sx.new hL
  have nL : M1 L = none := m1.none hL
  refine ⟨fun i mm H' => mm = ds.length - i ∧ i ≤ ds.length ∧ Sx H1 H' ∧ ∃ N, Has X.K H' N ∧ Mem.Le (Ms i) N ∧ N L = some (.lst (os i)), ⟨ds.length, by simp, Nat.zero_le _, sL, M1.put L (.lst []), m1.put (m := .lst []) sL ⟨[], upd_same, .nil⟩, by rw [h0]; exact (Mem.Le.refl M1).put nL, by rw [ho]; exact put_same⟩, ?_⟩
  rintro i mm H' ⟨rfl, hil, s2, N, m', hle, hNL⟩
  by_cases hlt : i < ds.length
  · refine .inr ⟨hgo i H' s2 hlt, fun H2 => Sx H1 H2 ∧ ∃ N2, Has X.K H2 N2 ∧ Mem.Le (Ms (i + 1)) N2 ∧ N2 L = some (.lst (os (i + 1))), fun H2 ⟨s3, N2, a, b, c⟩ => ⟨ds.length - (i + 1), by omega, rfl, hlt, s3, N2, a, b, c⟩, fun x H'' y => ?_⟩
    have hx := List.getElem?_eq_getElem hlt
    obtain ⟨s3, zx, keep⟩ := hy i H' x H'' s2 y _ hx
    obtain ⟨Γ2, ef, hN⟩ := hf i _ hx
    obtain ⟨h1, fr1, h2, h3⟩ := hN N hle
    have m'' := keep _ m'
    have s23 := s2.trans s3
    have lo'' : Lo X.K H'' σ Γ := (lo.mono s1).mono s23
    refine ⟨_, _, Γ2, zx, lo''.wipe _, ef, fun σ3 lo3 o3 => ⟨wipe_only o3 hj, ⟨⟨(Γ2, N, ifq i N, ifm i N), h1⟩, lo3, m'', fun H3 s4 m3 => ?_⟩⟩⟩
    have nLi : Ms i L = none := hd i L nL
    rcases Bool.eq_false_or_eq_true (ifq i N) with hq | hq
    rotate_left
    · refine ite_f (c := ifq i N = true) (by rw [hq]; exact Bool.false_ne_true) ?_
      obtain ⟨a, b⟩ := h3 hq
      exact ⟨s23.trans s4, ifm i N, m3, a, by rw [b]; exact fr1 L _ nLi hNL⟩
    · refine ite_t (c := ifq i N = true) hq ?_
      obtain ⟨a, fr2, b, c⟩ := h2 hq
      refine ⟨⟨(Γ2, ifm i N, el i N, em i N), a⟩, lo3.mono s4, m3, fun v H4 s5 m4 z4 => ?_⟩
      obtain ⟨xs, e4, za⟩ := m4 L _ (fr2 L _ nLi hNL)
      have sP : Sx H4 (upd H4 L (.lst (xs ++ [v]))) := Sx.put e4 True.intro
      refine ⟨xs, e4, ?_, (((s23.trans s4).trans s5).trans sP), (em i N).put L (.lst (os (i + 1))), m4.put (m := .lst (os (i + 1))) sP ⟨_, upd_same, by rw [c]; exact (za.app (.one z4)).mono sP⟩, ?_, put_same⟩
      · rw [za.length]
        exact Nat.lt_of_le_of_lt (hol i) (Nat.lt_of_lt_of_le (Nat.lt_of_lt_of_le hlt hz) (by decide))
      · intro a o q
        have hne : a ≠ L := fun z => by rw [z, hd (i + 1) L nL] at q; cases q
        rw [put_ne hne]
        exact b a o q
  · have ei : i = ds.length := by omega
    subst ei
    refine .inl ⟨hst _ H' s2 (Nat.le_refl _), ?_⟩
    obtain ⟨xs, e1, z1⟩ := m' L _ hNL
    exact k L H' xs (s1.trans s2) (m'.le hle) (hd _ L nL) e1 z1
theorem n_lc {elt tg it : Expr} {ifs : List Expr} {scope : Scope} {own : List (Str × Nat)} {js : List Nat} {f : Tg} (Ms : Nat → Mem) (os : Nat → List D) (hi : Wk X tg Γ M it ds M1)
    (hg : Bk X scope fun Y => Tgt Y tg js f) (hj : ∀ j ∈ js, j ∈ own.map (·.2)) (h0 : Ms 0 = M1) (ho : os 0 = []) (hd : ∀ i l, M1 l = none → Ms i l = none) (hz : ds.length ≤ 100000)
    (hol : ∀ i, (os i).length ≤ i)
    (ifq : Nat → Mem → Bool) (ifm : Nat → Mem → Mem) (el : Nat → Mem → D) (em : Nat → Mem → Mem)
    (hf : ∀ i x, ds[i]? = some x → ∃ Γ2, f x (wipeG Γ (own.map (·.2))) = some Γ2 ∧ ∀ N, Mem.Le (Ms i) N → Bk X scope (fun Y => Tss Y Γ2 N ifs (ifq i N) (ifm i N)) ∧ Fr (Ms i) N (ifm i N) ∧
      (ifq i N = true → Bk X scope (fun Y => Ev Y Γ2 (ifm i N) elt (el i N) (em i N)) ∧ Fr (Ms i) N (em i N) ∧ Mem.Le (Ms (i + 1)) (em i N) ∧ os (i + 1) = os i ++ [el i N]) ∧
      (ifq i N = false → Mem.Le (Ms (i + 1)) (ifm i N) ∧ os (i + 1) = os i))
    (ok : BlkOk X.N X.env.scope scope own := by exact blkOk_by (by kernel_rfl)) (hN : X.N.Nodup := by assumption) (hc : X.calm = true := by rfl) (hs : ∀ x, foldedSetIterable it X.env x = pure x := by intro _; rfl) :
    EvN X Γ M (.ListComp elt [⟨tg, it, ifs, 0⟩] scope pos) (os ds.length) (Ms ds.length) := lc_n (lc (Ms := Ms) (os := os) (hi := hi) (hg := hg) (hj := hj) (h0 := h0) (ho := ho) (hd := hd) (hz := hz) (hol := hol) (ifq := ifq) (ifm := ifm) (el := el) (em := em) (hf := hf) (ok := ok) (hN := hN) (hc := hc) (hs := hs))
end
end PR

set_option Elab.async false
set_option linter.all false
set_option maxRecDepth 100000
set_option maxHeartbeats 4000000
/-! PR, part 5: items, slices, list and text operators, built-ins, walks, short comprehensions, defs. -/
namespace PR
open PySem PySem.Spec PyProof.Rows L2

/-- a list as data: frozen, or in the memory -/
inductive LstD (M : Mem) : D → List D → Prop
  | fz {ds : List D} : LstD M (.lst ds) ds
  | mu {a : Addr} {ds : List D} (h : M a = some (.lst ds)) : LstD M (.obj a) ds
theorem LstD.rd {K : PySem.W.Frag} {H : Hp} {M : Mem} {d : D} {ds : List D} {v : V} (h : LstD M d ds) (hm : Has K H M) (z : Dz K H v d) : ∃ a xs, v = .ref a ∧ Rd H a (.lst xs) ∧ DzA K H xs ds := by
  cases h with
  | fz =>
    cases z with
    | lst e t => exact ⟨_, _, rfl, .inr e, t⟩
  | mu q =>
    cases z
    obtain ⟨xs, e, t⟩ := hm _ _ q
    exact ⟨_, xs, rfl, .inl e, t⟩
section
variable {X : Cx} {pins : List (Addr × Obj)} {σ : L2.St} {H : Hp} {s : Shared} {l : Addr} {xs : List V}
theorem lstR (I : Inv X pins σ H s) (hH : Rd H l (.lst xs)) : xs.length ≤ sizeLine ∧ ∃ (its : List Value) (n : Nat), Vals xs its ∧ xs.length = its.length ∧ s.heap.get? l = some { cls := .type "list", data := .seq its.toArray n } := by
  obtain ⟨z, its, n, r, e⟩ := hH.ok I.hok
  exact ⟨z, its, n, r, r.length, e⟩
end
def rCatF : R2 := fun x y H Q => ∃ l b xs zs, x = .ref l ∧ y = .ref b ∧ Rd H l (.lst xs) ∧ Rd H b (.lst zs) ∧ xs.length + zs.length ≤ sizeLine ∧ ∀ p, H p = none → Q (.ref p) (upd H p (.lst (xs ++ zs)))
def rRepF : R2 := fun x y H Q => ∃ l k xs, x = .ref l ∧ y = .int k ∧ Rd H l (.lst xs) ∧ -(2 ^ 63) ≤ k ∧ k < 2 ^ 63 ∧ xs.length * k.toNat ≤ sizeLine ∧ ∀ p, H p = none → Q (.ref p) (upd H p (.lst (List.replicate k.toNat xs).flatten))
def rExtendF : V → List V → Hp → VK → Prop := fun x vs H Q => ∃ l b xs zs, x = .ref l ∧ vs = [.ref b] ∧ H l = some (.lst xs) ∧ Rd H b (.lst zs) ∧ xs.length + zs.length ≤ sizeLine ∧ Q .non (upd H l (.lst (xs ++ zs)))
section
variable {X : Cx}
theorem op_catF : OpR X (binaryOp .Add) rCatF := by
  intro pins s σ H x y v u Q I rx ry h
  obtain ⟨l, b, xs, zs, rfl, rfl, hH, hB, hz, q⟩ := h
  cases rx
  cases ry
  obtain ⟨z, its, n, r, hl, e⟩ := lstR I hH
  obtain ⟨z2, its2, n2, r2, hl2, e2⟩ := lstR I hB
  refine PySem.P.add_list e e2 ?_ (by rw [List.size_toArray, List.size_toArray]; omega)
  have ea : its.toArray ++ its2.toArray = (its ++ its2).toArray := by simp
  rw [ea]
  exact ⟨.ref _, _, I.lnew (t' := s.toks) (r.append r2) (by rw [List.length_append]; omega), rfl, q _ I.fresh⟩
theorem op_repF : OpR X (binaryOp .Mult) rRepF := by
  intro pins s σ H x y v u Q I rx ry h
  obtain ⟨l, k, xs, rfl, rfl, hH, h1, h2, hz, q⟩ := h
  cases rx
  obtain ⟨t, rfl⟩ := ry
  obtain ⟨z, its, n, r, hl, e⟩ := lstR I hH
  have hlen : its.toArray.size * k.toNat ≤ sizeLine := by rw [List.size_toArray, ← hl]; exact hz
  have hcap : ¬ its.toArray.size * k.toNat > (2 ^ 63 - 1) / 8 := by
    have : (sizeLine : Nat) ≤ (2 ^ 63 - 1) / 8 := by decide
    omega
  have hfit : ¬ (!Builtin.List.listFitsIndex k) = true := by
    rw [fitsIndex_both h1 h2]
    exact Bool.false_ne_true
  have hlong : ¬ Builtin.List.listTooLong (its.toArray.size * k.toNat) = true := by
    rw [notLongL hlen]
    exact Bool.false_ne_true
  have hnew : List.foldl (fun x1 x2 => x1 ++ x2) #[] (List.replicate (if its.toArray.isEmpty = true then 0 else k.toNat) its.toArray) = (List.replicate k.toNat its).flatten.toArray := by
    have f0 : ∀ m : Nat, List.foldl (fun x1 x2 => x1 ++ x2) #[] (List.replicate m its.toArray) = (List.replicate m its).flatten.toArray := fun m => by
      have := foldl_rep its m []
      rw [List.nil_append] at this
      exact this
    rw [f0]
    cases its with
    | nil => simp
    | cons a r' => rw [if_neg (by simp)]
  refine wpAny_binaryOp_repeat_ref (T := "list") (U := "int") (by decide) ⟨_, e, rfl⟩ (fun s' => typeIs_int s' k t) noFill_list_mul F.fills_int_mul F.slot_int_rmul repeat_list F.slot_int_index.lookup
    (call_meets F.slot_int_rmul (typeIs_int s k t) F.entry_int_rmul (F.args_int_rmul_2 _ _) (int___rmul___int_list k t l its.toArray n)
      ⟨e, rfl, ⟨_, e, rfl⟩, call_meets F.slot_list_mul ⟨_, e, rfl⟩ F.entry_list_mul (F.args_list_mul_2 _ _) (AutoListH.list___mul___list_int_3 l its.toArray n k t hfit hcap hlong) ⟨e, ?_⟩⟩)
  rw [hnew]
  exact ⟨.ref _, _, I.lnew (t' := s.toks) (r.rep k.toNat) (by rw [PyProof.Rows.lm_len_rep_flat, Nat.mul_comm]; exact hz), rfl, q _ I.fresh⟩
theorem mt_extendF : MtM X "list.extend" rExtendF := by
  intro pins s σ H x vs v us Q I rx rv h
  obtain ⟨l, b, xs, zs, rfl, rfl, hH, hB, hz, q⟩ := h
  cases rx
  obtain ⟨u, rfl, ru⟩ := rv.one
  cases ru
  obtain ⟨z, its, n, r, hl, e⟩ := I.lstM hH
  obtain ⟨z2, its2, n2, r2, hl2, e2⟩ := lstR I hB
  have hsz : its.toArray.size + its2.toArray.size ≤ sizeLine := by rw [List.size_toArray, List.size_toArray]; omega
  have hlong : ¬ (!its.toArray.isEmpty && Builtin.List.listTooLong (its.toArray.size + its2.toArray.size)) = true := by
    rw [notLongL hsz, Bool.and_false]
    exact Bool.false_ne_true
  refine call_meets F.slot_list_extend ⟨_, e, rfl⟩ F.entry_list_extend (F.args_list_extend_2 _ _)
    (AutoSeq1.list_extend_list_list_0 l its.toArray n b its2.toArray n2 hlong (by rw [List.size_toArray]; omega) (by omega)) ⟨e, e2, ?_⟩
  refine ⟨.non, _, I.lset (its' := its ++ its2) hH e (by simp) (r.append r2) ?_, rfl, q⟩
  rw [List.length_append]
  omega
end
/-- a tuple taken k times, whatever k -/
theorem rdSqL {K : PySem.W.Frag} {H : Hp} {a : Addr} {xs : List V} (h : Rd H a (.lst xs)) : SqL K H a xs := .inl h

section
variable {X : Cx} {Γ : Gm} {M M1 M2 M3 : Mem} {a b e o : Expr} {es : List Expr} {x y z d : D} {ds dd zs : List D} {pos apos p pos' : Pos} {k : Nat} {n m : Str} {C : Addr} {R : En} {st : Stmt} {rest sa sb : List Stmt}
/-! ### items -/
theorem DzA.atI {K : PySem.W.Frag} {H : Hp} {xs : List V} {i : Int} (h : DzA K H xs ds) (e : L2.atI ds i = some d) : ∃ v, L2.atI xs i = some v ∧ Dz K H v d := by
  unfold L2.atI at e ⊢
  obtain ⟨j, e3, e4⟩ := Option.bind_eq_some_iff.mp e
  obtain ⟨v, hv, zv⟩ := h.at_ e4
  refine ⟨v, ?_, zv⟩
  rw [h.length, e3]
  exact hv
theorem e_ixT {i : Int} (hi : L2.atI ds i = some d) (ha : Ev X Γ M a (.tup ds) M1) (hb : Ev X Γ M1 b (.int i) M2) (hs : PlainIx b := by exact fun _ _ => rfl) : Ev X Γ M (.Subscript a b pos) d M2 :=
  pe_imp (pe_ix ix_tup ha hb hs) fun σ H Q ⟨lo, hm, q⟩ => ⟨lo, hm, fun v H1 s1 m1 z1 => ⟨lo.mono s1, m1, fun u H2 s2 m2 z2 => by
    cases z1 with
    | tup hq za =>
      cases z2
      obtain ⟨v, hv, zv⟩ := (za.mono s2).atI hi
      exact ⟨_, _, i, v, rfl, rfl, s2.sqt hq, hv, q v H2 (s1.trans s2) m2 zv⟩⟩⟩
theorem e_ixL {i : Int} (hl : LstD M2 x ds) (hi : L2.atI ds i = some d) (ha : Ev X Γ M a x M1) (hb : Ev X Γ M1 b (.int i) M2) (hs : PlainIx b := by exact fun _ _ => rfl) : Ev X Γ M (.Subscript a b pos) d M2 :=
  pe_imp (pe_ix ix_list ha hb hs) fun σ H Q ⟨lo, hm, q⟩ => ⟨lo, hm, fun v H1 s1 m1 z1 => ⟨lo.mono s1, m1, fun u H2 s2 m2 z2 => by
    cases z2
    obtain ⟨l, xs, rfl, hq, za⟩ := hl.rd m2 (z1.mono s2)
    obtain ⟨v, hv, zv⟩ := za.atI hi
    exact ⟨_, _, i, v, rfl, rfl, rdSqL hq, hv, q v H2 (s1.trans s2) m2 zv⟩⟩⟩
theorem e_ixS {i : Int} {t : Str} {c : Nat} (hz : t.length ≤ sizeLine) (hi : L2.atI t.cps.toList i = some c) (ha : Ev X Γ M a (.str t) M1) (hb : Ev X Γ M1 b (.int i) M2) (hs : PlainIx b := by exact fun _ _ => rfl) : Ev X Γ M (.Subscript a b pos) (.str ⟨#[c]⟩) M2 :=
  pe_imp (pe_ix ix_str ha hb hs) fun σ H Q ⟨lo, hm, q⟩ => ⟨lo, hm, fun v H1 s1 m1 z1 => ⟨lo.mono s1, m1, fun u H2 s2 m2 z2 => by
    cases z1
    cases z2
    exact ⟨t, i, c, rfl, rfl, hz, hi, q _ H2 (s1.trans s2) m2 (.str _)⟩⟩⟩
/-! ### slices -/
def tO (K : PySem.W.Frag) (Γ : Gm) (M : Mem) (i : Option Int) (M' : Mem) : TO := fun σ H Q => Lo K H σ Γ ∧ Has K H M ∧ ∀ H', Sx H H' → Has K H' M' → Q i H'
abbrev EvO (X : Cx) (Γ : Gm) (M : Mem) (e : Option Expr) (i : Option Int) (M' : Mem) : Prop := PO X e (tO X.K Γ M i M')
theorem po_imp {e : Option Expr} {t t' : TO} (h : PO X e t) (k : ∀ σ H Q, t' σ H Q → t σ H Q) : PO X e t' := ⟨fun pins s σ H Q I q => h.run pins s σ H Q I (k σ H Q q)⟩
theorem o_none : EvO X Γ M none none M := po_imp po_none fun σ H Q ⟨_, hm, q⟩ => q H (Sx.refl H) hm
theorem o_some {i : Int} (h : Ev X Γ M e (.int i) M1) : EvO X Γ M (some e) (some i) M1 := po_imp (po_some h) fun σ H Q ⟨lo, hm, q⟩ => ⟨lo, hm, fun v H1 s1 m1 z1 => by
  cases z1
  exact ⟨i, rfl, q H1 s1 m1⟩⟩
/-- t[lo:hi] of data -/
def cutD (xs : List D) (lo hi : Option Int) : List D := (xs.drop (HT.sIx xs.length 0 lo)).take (HT.sIx xs.length xs.length hi - HT.sIx xs.length 0 lo)
theorem DzA.cut {K : PySem.W.Frag} {H : Hp} {xs : List V} (h : DzA K H xs ds) (lo hi : Option Int) : DzA K H (cutV xs lo hi) (cutD ds lo hi) := by
  unfold cutV cutD
  rw [h.length]
  exact (h.drop _).take _
theorem cutD_all {lo hi : Option Int} (h : HT.sIx ds.length 0 lo = 0 ∧ HT.sIx ds.length ds.length hi = ds.length) : cutD ds lo hi = ds := by
  unfold cutD
  rw [h.1, h.2]
  simp
variable {lo hi : Option Expr} {il ih : Option Int} {p2 : Pos}
theorem e_slT (ha : Ev X Γ M a (.tup ds) M1) (hl : EvO X Γ M1 lo il M2) (hh : EvO X Γ M2 hi ih M3) : Ev X Γ M (.Subscript a (.Slice lo hi none p2) pos) (.tup (cutD ds il ih)) M3 :=
  pe_imp (pe_slice sl_tupA ha hl hh) fun σ H Q ⟨lo, hm, q⟩ => ⟨lo, hm, fun v H1 s1 m1 z1 => ⟨lo.mono s1, m1, fun H2 s2 m2 => ⟨(lo.mono s1).mono s2, m2, fun H3 s3 m3 => by
    have s23 := s2.trans s3
    cases z1 with
    | @tup a xs _ hq za =>
      have za := za.mono s23
      refine ⟨a, xs, rfl, s23.sqt hq, fun hw => ?_, fun _ p hp => ?_⟩
      · rw [za.length] at hw
        rw [cutD_all hw] at q
        exact q _ H3 (s1.trans s23) m3 (.tup (s23.sqt hq) za)
      · exact q _ _ ((s1.trans s23).trans (Sx.new hp)) (m3.new hp) (.tup (.inl (.inl upd_same)) ((za.cut _ _).mono (Sx.new hp)))⟩⟩⟩
theorem n_slL (hx : LstD M3 x ds) (ha : Ev X Γ M a x M1) (hl : EvO X Γ M1 lo il M2) (hh : EvO X Γ M2 hi ih M3) : EvN X Γ M (.Subscript a (.Slice lo hi none p2) pos) (cutD ds il ih) M3 :=
  pe_imp (pe_slice sl_list ha hl hh) fun σ H Q ⟨lo, hm, q⟩ => ⟨lo, hm, fun v H1 s1 m1 z1 => ⟨lo.mono s1, m1, fun H2 s2 m2 => ⟨(lo.mono s1).mono s2, m2, fun H3 s3 m3 => by
    have s23 := s2.trans s3
    obtain ⟨l, xs, rfl, hq, za⟩ := hx.rd m3 (z1.mono s23)
    exact ⟨l, xs, rfl, rdSqL hq, fun p hp => q _ _ _ ((s1.trans s23).trans (Sx.new hp)) (m3.new hp) (m3.none hp) upd_same ((za.cut _ _).mono (Sx.new hp))⟩⟩⟩⟩
theorem e_slS {t : Str} (hz : t.length ≤ sizeLine) (ha : Ev X Γ M a (.str t) M1) (hl : EvO X Γ M1 lo il M2) (hh : EvO X Γ M2 hi ih M3) : Ev X Γ M (.Subscript a (.Slice lo hi none p2) pos) (.str (cutS t il ih)) M3 :=
  pe_imp (pe_slice sl_str ha hl hh) fun σ H Q ⟨lo, hm, q⟩ => ⟨lo, hm, fun v H1 s1 m1 z1 => ⟨lo.mono s1, m1, fun H2 s2 m2 => ⟨(lo.mono s1).mono s2, m2, fun H3 s3 m3 => by
    cases z1
    exact ⟨t, rfl, hz, q _ H3 ((s1.trans s2).trans s3) m3 (.str _)⟩⟩⟩⟩
/-! ### + and * -/
theorem e_catT (hz : ds.length + zs.length ≤ 100000) (ha : Ev X Γ M a (.tup ds) M1) (hb : Ev X Γ M1 b (.tup zs) M2) : Ev X Γ M (.BinOp a .Add b pos) (.tup (ds ++ zs)) M2 := e_op op_catA (fun H M u v z1 z2 m Q q => by
  cases z1 with
  | @tup a xs _ hq za =>
    cases z2 with
    | @tup b ys _ hq2 zb =>
      refine ⟨a, b, xs, ys, rfl, rfl, hq, hq2, ?_, fun e => ?_, fun _ e => ?_, fun _ _ p hp => ?_⟩
      · rw [za.length, zb.length]
        exact Nat.le_trans hz (by decide)
      · subst e
        cases za
        exact q _ H (Sx.refl H) m (.tup hq2 zb)
      · subst e
        cases zb
        rw [List.append_nil] at q
        exact q _ H (Sx.refl H) m (.tup hq za)
      · exact q _ _ (Sx.new hp) (m.new hp) (.tup (.inl (.inl upd_same)) ((za.app zb).mono (Sx.new hp)))) ha hb
theorem n_cat (hx : LstD M2 x ds) (hy : LstD M2 y zs) (hz : ds.length + zs.length ≤ 100000) (ha : Ev X Γ M a x M1) (hb : Ev X Γ M1 b y M2) : EvN X Γ M (.BinOp a .Add b pos) (ds ++ zs) M2 :=
  pe_imp (pe_op op_catF ha hb) fun σ H Q ⟨lo, hm, q⟩ => ⟨lo, hm, fun va H1 s1 m1 z1 => ⟨lo.mono s1, m1, fun vb H2 s2 m2 z2 => by
    obtain ⟨l, xs, rfl, hq, za⟩ := hx.rd m2 (z1.mono s2)
    obtain ⟨l2, ys, rfl, hq2, zb⟩ := hy.rd m2 z2
    exact ⟨l, l2, xs, ys, rfl, rfl, hq, hq2, by rw [za.length, zb.length]; exact Nat.le_trans hz (by decide), fun p hp => q _ _ _ ((s1.trans s2).trans (Sx.new hp)) (m2.new hp) (m2.none hp) upd_same ((za.app zb).mono (Sx.new hp))⟩⟩⟩
theorem n_rep {i : Int} (hx : LstD M2 x ds) (hi : 0 ≤ i ∧ i < 2 ^ 62) (hz : ds.length * i.toNat ≤ 100000) (ha : Ev X Γ M a x M1) (hb : Ev X Γ M1 b (.int i) M2) : EvN X Γ M (.BinOp a .Mult b pos) (List.replicate i.toNat ds).flatten M2 :=
  pe_imp (pe_op op_repF ha hb) fun σ H Q ⟨lo, hm, q⟩ => ⟨lo, hm, fun va H1 s1 m1 z1 => ⟨lo.mono s1, m1, fun vb H2 s2 m2 z2 => by
    obtain ⟨l, xs, rfl, hq, za⟩ := hx.rd m2 (z1.mono s2)
    cases z2
    exact ⟨l, i, xs, rfl, rfl, hq, by omega, by omega, by rw [za.length]; exact Nat.le_trans hz (by decide), fun p hp => q _ _ _ ((s1.trans s2).trans (Sx.new hp)) (m2.new hp) (m2.none hp) upd_same ((za.rep _).mono (Sx.new hp))⟩⟩⟩
/-! ### built-ins -/
theorem e_lenT (hm : X.mg "len" = none) (ha : EvA X Γ M [e] [.tup ds] M1) (hg : Gl X "len" := by rfl) (he : starEach [e] X.env = (false, eval e X.env) :: starEach [] X.env := by rfl) : Ev X Γ M (.Call (.Name "len" p) [e] [] pos) (.int ds.length) M1 :=
  e_cb call_len_seq (fun H M vs z m Q q => by
    cases z with
    | cons z1 z2 =>
      cases z2
      cases z1 with
      | @tup a xs _ hq za => exact ⟨a, xs, rfl, .inr hq, by rw [za.length]; exact q _ H (Sx.refl H) m (.int _)⟩) hm boot_len ha hg (by decide) (by decide) he
theorem e_lenL (hx : LstD M1 x ds) (hm : X.mg "len" = none) (ha : EvA X Γ M [e] [x] M1) (hg : Gl X "len" := by rfl) (he : starEach [e] X.env = (false, eval e X.env) :: starEach [] X.env := by rfl) : Ev X Γ M (.Call (.Name "len" p) [e] [] pos) (.int ds.length) M1 :=
  pe_imp (pe_callB call_len_seq hg hm boot_len ha (by decide) (by decide) he) fun σ H Q ⟨lo, hM, q⟩ => ⟨lo, hM, fun vs H1 s1 m1 z1 => by
    cases z1 with
    | cons z1 z2 =>
      cases z2
      obtain ⟨l, xs, rfl, hq, za⟩ := hx.rd m1 z1
      exact ⟨l, xs, rfl, .inl (rdSqL hq), by rw [za.length]; exact q _ H1 s1 m1 (.int _)⟩⟩
theorem e_lenS {t : Str} (hz : t.length ≤ sizeLine) (hm : X.mg "len" = none) (ha : EvA X Γ M [e] [.str t] M1) (hg : Gl X "len" := by rfl) (he : starEach [e] X.env = (false, eval e X.env) :: starEach [] X.env := by rfl) : Ev X Γ M (.Call (.Name "len" p) [e] [] pos) (.int t.length) M1 :=
  e_cb call_len_str (fun H M vs z m Q q => by
    cases z with
    | cons z1 z2 =>
      cases z2
      cases z1
      exact ⟨t, rfl, hz, q _ H (Sx.refl H) m (.int _)⟩) hm boot_len ha hg (by decide) (by decide) he
theorem e_sum {ns : List Int} (hx : LstD M1 x (ns.map .int)) (hm : X.mg "sum" = none) (ha : EvA X Γ M [e] [x] M1) (hc : X.calm = true := by rfl) (hg : Gl X "sum" := by rfl) (he : starEach [e] X.env = (false, eval e X.env) :: starEach [] X.env := by rfl) : Ev X Γ M (.Call (.Name "sum" p) [e] [] pos) (.int ns.sum) M1 :=
  pe_imp (pe_callB (cr_sum hc) hg hm (by decide +kernel) ha (by decide) (by decide) he) fun σ H Q ⟨lo, hM, q⟩ => ⟨lo, hM, fun vs H1 s1 m1 z1 => by
    cases z1 with
    | cons z1 z2 =>
      cases z2
      obtain ⟨l, xs, rfl, hq, za⟩ := hx.rd m1 z1
      have e1 := za.ints
      subst e1
      exact ⟨l, ns, rfl, rdSqL hq, q _ H1 s1 m1 (.int _)⟩⟩
theorem e_all {bs : List Bool} (hx : LstD M1 x (bs.map .bl)) (hm : X.mg "all" = none) (ha : EvA X Γ M [e] [x] M1) (hc : X.calm = true := by rfl) (hg : Gl X "all" := by rfl) (he : starEach [e] X.env = (false, eval e X.env) :: starEach [] X.env := by rfl) : Ev X Γ M (.Call (.Name "all" p) [e] [] pos) (.bl (bs.all id)) M1 :=
  pe_imp (pe_callB (cr_all hc) hg hm (by decide +kernel) ha (by decide) (by decide) he) fun σ H Q ⟨lo, hM, q⟩ => ⟨lo, hM, fun vs H1 s1 m1 z1 => by
    cases z1 with
    | cons z1 z2 =>
      cases z2
      obtain ⟨l, xs, rfl, hq, za⟩ := hx.rd m1 z1
      have e1 := za.bls
      subst e1
      exact ⟨l, bs, rfl, rdSqL hq, q _ H1 s1 m1 (.bl _)⟩⟩
/-- the greatest, the least -/
def maxI : List Int → Int
  | [] => 0
  | [a] => a
  | a :: r => max a (maxI r)
def minI : List Int → Int
  | [] => 0
  | [a] => a
  | a :: r => min a (minI r)
theorem maxI_is : ∀ {ns : List Int}, 0 < ns.length → maxI ns ∈ ns ∧ ∀ y ∈ ns, y ≤ maxI ns
  | [a], _ => by simp [maxI]
  | a :: b :: r, _ => by
    obtain ⟨h1, h2⟩ := maxI_is (ns := b :: r) (by simp)
    have e : maxI (a :: b :: r) = max a (maxI (b :: r)) := rfl
    rw [e]
    refine ⟨?_, fun y hy => ?_⟩
    · by_cases h : a ≤ maxI (b :: r)
      · rw [Int.max_eq_right h]
        exact List.mem_cons_of_mem _ h1
      · rw [Int.max_eq_left (by omega)]
        exact List.mem_cons_self
    · rcases List.mem_cons.mp hy with e | hy
      · subst e
        omega
      · have := h2 y hy
        omega
theorem minI_is : ∀ {ns : List Int}, 0 < ns.length → minI ns ∈ ns ∧ ∀ y ∈ ns, minI ns ≤ y
  | [a], _ => by simp [minI]
  | a :: b :: r, _ => by
    obtain ⟨h1, h2⟩ := minI_is (ns := b :: r) (by simp)
    have e : minI (a :: b :: r) = min a (minI (b :: r)) := rfl
    rw [e]
    refine ⟨?_, fun y hy => ?_⟩
    · by_cases h : minI (b :: r) ≤ a
      · rw [Int.min_eq_right h]
        exact List.mem_cons_of_mem _ h1
      · rw [Int.min_eq_left (by omega)]
        exact List.mem_cons_self
    · rcases List.mem_cons.mp hy with e | hy
      · subst e
        omega
      · have := h2 y hy
        omega
theorem e_maxL {ns : List Int} (hx : LstD M1 x (ns.map .int)) (h0 : 0 < ns.length) (hm : X.mg "max" = none) (ha : EvA X Γ M [e] [x] M1) (hc : X.calm = true := by rfl) (hg : Gl X "max" := by rfl) (he : starEach [e] X.env = (false, eval e X.env) :: starEach [] X.env := by rfl) : Ev X Γ M (.Call (.Name "max" p) [e] [] pos) (.int (maxI ns)) M1 :=
  pe_imp (pe_callB (cr_max hc) hg hm (by decide +kernel) ha (by decide) (by decide) he) fun σ H Q ⟨lo, hM, q⟩ => ⟨lo, hM, fun vs H1 s1 m1 z1 => by
    cases z1 with
    | cons z1 z2 =>
      cases z2
      obtain ⟨l, xs, rfl, hq, za⟩ := hx.rd m1 z1
      have e1 := za.ints
      subst e1
      refine ⟨l, ns, rfl, rdSqL hq, h0, fun m h1 h2 => ?_⟩
      obtain ⟨h3, h4⟩ := maxI_is h0
      have : m = maxI ns := Int.le_antisymm (h4 m h1) (h2 _ h3)
      rw [this]
      exact q _ H1 s1 m1 (.int _)⟩
theorem e_minL {ns : List Int} (hx : LstD M1 x (ns.map .int)) (h0 : 0 < ns.length) (hm : X.mg "min" = none) (ha : EvA X Γ M [e] [x] M1) (hc : X.calm = true := by rfl) (hg : Gl X "min" := by rfl) (he : starEach [e] X.env = (false, eval e X.env) :: starEach [] X.env := by rfl) : Ev X Γ M (.Call (.Name "min" p) [e] [] pos) (.int (minI ns)) M1 :=
  pe_imp (pe_callB (cr_min hc) hg hm (by decide +kernel) ha (by decide) (by decide) he) fun σ H Q ⟨lo, hM, q⟩ => ⟨lo, hM, fun vs H1 s1 m1 z1 => by
    cases z1 with
    | cons z1 z2 =>
      cases z2
      obtain ⟨l, xs, rfl, hq, za⟩ := hx.rd m1 z1
      have e1 := za.ints
      subst e1
      refine ⟨l, ns, rfl, rdSqL hq, h0, fun m h1 h2 => ?_⟩
      obtain ⟨h3, h4⟩ := minI_is h0
      have : m = minI ns := Int.le_antisymm (h2 _ h3) (h4 m h1)
      rw [this]
      exact q _ H1 s1 m1 (.int _)⟩
theorem e_max2 {i j : Int} (hm : X.mg "max" = none) (ha : EvA X Γ M [a, b] [.int i, .int j] M1) (hc : X.calm = true := by rfl) (hg : Gl X "max" := by rfl) (he : starEach [a, b] X.env = (false, eval a X.env) :: starEach [b] X.env := by rfl) (hpl : (backTo pos (starEach [b] X.env)).any (·.1) = false := by rfl) :
    Ev X Γ M (.Call (.Name "max" p) [a, b] [] pos) (.int (max i j)) M1 :=
  e_cb (call_max2 hc) (fun H M vs z m Q q => by
    cases z with
    | cons z1 z2 =>
      cases z2 with
      | cons z2 z3 =>
        cases z3
        cases z1
        cases z2
        refine ⟨i, j, rfl, ?_⟩
        have e : (if j > i then j else i) = max i j := by split <;> omega
        rw [e]
        exact q _ H (Sx.refl H) m (.int _)) hm (by decide +kernel) ha hg (by decide) (by decide) he hpl
theorem e_min2 {i j : Int} (hm : X.mg "min" = none) (ha : EvA X Γ M [a, b] [.int i, .int j] M1) (hc : X.calm = true := by rfl) (hg : Gl X "min" := by rfl) (he : starEach [a, b] X.env = (false, eval a X.env) :: starEach [b] X.env := by rfl) (hpl : (backTo pos (starEach [b] X.env)).any (·.1) = false := by rfl) :
    Ev X Γ M (.Call (.Name "min" p) [a, b] [] pos) (.int (min i j)) M1 :=
  e_cb (call_min2 hc) (fun H M vs z m Q q => by
    cases z with
    | cons z1 z2 =>
      cases z2 with
      | cons z2 z3 =>
        cases z3
        cases z1
        cases z2
        refine ⟨i, j, rfl, ?_⟩
        have e : (if j < i then j else i) = min i j := by split <;> omega
        rw [e]
        exact q _ H (Sx.refl H) m (.int _)) hm (by decide +kernel) ha hg (by decide) (by decide) he hpl
theorem e_abs {i : Int} (hm : X.mg "abs" = none) (ha : EvA X Γ M [a] [.int i] M1) (hg : Gl X "abs" := by rfl) (he : starEach [a] X.env = (false, eval a X.env) :: starEach [] X.env := by rfl) : Ev X Γ M (.Call (.Name "abs" p) [a] [] pos) (.int (if i < 0 then -i else i)) M1 :=
  e_cb call_abs (fun H M vs z m Q q => by
    cases z with
    | cons z1 z2 =>
      cases z2
      cases z1
      exact ⟨i, rfl, q _ H (Sx.refl H) m (.int _)⟩) hm (by decide +kernel) ha hg (by decide) (by decide) he
def b2i (b : Bool) : Int := if b then 1 else 0
theorem e_intB {q : Bool} (hm : X.mg "int" = none) (ha : EvA X Γ M [a] [.bl q] M1) (hg : Gl X "int" := by rfl) (he : starEach [a] X.env = (false, eval a X.env) :: starEach [] X.env := by rfl) : Ev X Γ M (.Call (.Name "int" p) [a] [] pos) (.int (b2i q)) M1 :=
  e_ct call_int1 (fun H M vs z m Q k => by
    cases z with
    | cons z1 z2 =>
      cases z2
      cases z1
      exact .inr ⟨q, rfl, k _ H (Sx.refl H) m (.int _)⟩) hm (by decide +kernel) ha hg (by decide) (by decide) he
theorem e_tupL (hx : LstD M1 x ds) (hm : X.mg "tuple" = none) (ha : EvA X Γ M [e] [x] M1) (hg : Gl X "tuple" := by rfl) (he : starEach [e] X.env = (false, eval e X.env) :: starEach [] X.env := by rfl) : Ev X Γ M (.Call (.Name "tuple" p) [e] [] pos) (.tup ds) M1 :=
  pe_imp (pe_callTy call_tuple_of hg hm (by decide +kernel) ha (by decide) (by decide) he) fun σ H Q ⟨lo, hM, q⟩ => ⟨lo, hM, fun vs H1 s1 m1 z1 => by
    cases z1 with
    | cons z1 z2 =>
      cases z2
      obtain ⟨l, xs, rfl, hq, za⟩ := hx.rd m1 z1
      exact ⟨l, xs, rfl, .inl ⟨rdSqL hq, fun t ht => q _ _ (s1.trans (Sx.new ht)) (m1.new ht) (.tup (.inl (.inl upd_same)) (za.mono (Sx.new ht)))⟩⟩⟩
theorem e_tupT (hm : X.mg "tuple" = none) (ha : EvA X Γ M [e] [.tup ds] M1) (hg : Gl X "tuple" := by rfl) (he : starEach [e] X.env = (false, eval e X.env) :: starEach [] X.env := by rfl) : Ev X Γ M (.Call (.Name "tuple" p) [e] [] pos) (.tup ds) M1 :=
  pe_imp (pe_callTy call_tuple_of hg hm (by decide +kernel) ha (by decide) (by decide) he) fun σ H Q ⟨lo, hM, q⟩ => ⟨lo, hM, fun vs H1 s1 m1 z1 => by
    cases z1 with
    | cons z1 z2 =>
      cases z2
      cases z1 with
      | @tup a xs _ hq za => exact ⟨a, xs, rfl, .inr ⟨hq, q _ H1 s1 m1 (.tup hq za)⟩⟩⟩
theorem n_listL (hx : LstD M1 x ds) (hm : X.mg "list" = none) (ha : EvA X Γ M [e] [x] M1) (hg : Gl X "list" := by rfl) (he : starEach [e] X.env = (false, eval e X.env) :: starEach [] X.env := by rfl) : EvN X Γ M (.Call (.Name "list" p) [e] [] pos) ds M1 :=
  pe_imp (pe_callTy call_list_of hg hm (by decide +kernel) ha (by decide) (by decide) he) fun σ H Q ⟨lo, hM, q⟩ => ⟨lo, hM, fun vs H1 s1 m1 z1 => by
    cases z1 with
    | cons z1 z2 =>
      cases z2
      obtain ⟨l, xs, rfl, hq, za⟩ := hx.rd m1 z1
      exact ⟨l, xs, rfl, .inl (rdSqL hq), fun t ht => q _ _ _ (s1.trans (Sx.new ht)) (m1.new ht) (m1.none ht) upd_same (za.mono (Sx.new ht))⟩⟩
theorem n_listT (hm : X.mg "list" = none) (ha : EvA X Γ M [e] [.tup ds] M1) (hg : Gl X "list" := by rfl) (he : starEach [e] X.env = (false, eval e X.env) :: starEach [] X.env := by rfl) : EvN X Γ M (.Call (.Name "list" p) [e] [] pos) ds M1 :=
  pe_imp (pe_callTy call_list_of hg hm (by decide +kernel) ha (by decide) (by decide) he) fun σ H Q ⟨lo, hM, q⟩ => ⟨lo, hM, fun vs H1 s1 m1 z1 => by
    cases z1 with
    | cons z1 z2 =>
      cases z2
      cases z1 with
      | @tup a xs _ hq za => exact ⟨a, xs, rfl, .inr hq, fun t ht => q _ _ _ (s1.trans (Sx.new ht)) (m1.new ht) (m1.none ht) upd_same (za.mono (Sx.new ht))⟩⟩
theorem e_divmod {i j : Int} (hc : CDiv i j) (hm : X.mg "divmod" = none) (ha : EvA X Γ M [a, b] [.int i, .int j] M1) (hg : Gl X "divmod" := by rfl) (he : starEach [a, b] X.env = (false, eval a X.env) :: starEach [b] X.env := by rfl) (hpl : (backTo pos (starEach [b] X.env)).any (·.1) = false := by rfl) :
    Ev X Γ M (.Call (.Name "divmod" p) [a, b] [] pos) (.tup [.int (i / j), .int (i % j)]) M1 :=
  e_cb call_divmod (fun H M vs z m Q q => by
    cases z with
    | cons z1 z2 =>
      cases z2 with
      | cons z2 z3 =>
        cases z3
        cases z1
        cases z2
        exact ⟨i, j, rfl, hc, fun p hp => q _ _ (Sx.new hp) (m.new hp) (.tup (.inl (.inl upd_same)) (.cons (.int _) (.cons (.int _) .nil)))⟩) hm (by decide +kernel) ha hg (by decide) (by decide) he hpl
/-! ### lists that change -/
theorem j_app {l : Addr} (ho : Ev X Γ M o (.obj l) M1) (he : Ev X Γ M1 e d M2) (hl : M2 l = some (.lst ds)) (hz : ds.length < 100000) (hk : Jss X Γ (M2.put l (.lst (ds ++ [d]))) rest R) (h1 : M1 l = some (.lst zs))
    (hpe : ∀ {to te : TE}, PE X o to → PE X e te → PE X (.Call (.Attribute o "append" apos) [e] [] pos) (tBM X.K "list" rAppend to (tCons te tNil)) := by exact fun h1 h2 => pe_bm PySem.F.plainAttrs_list PySem.F.slot_list_append PySem.F.type_list_append mt_append h1 (pa_cons h2 pa_nil))
    (hs : swapsWith (.Call (.Attribute o "append" apos) [e] [] pos) none pos'.line X.env = pure false := by rfl) : Jss X Γ M (.Expr (.Call (.Attribute o "append" apos) [e] [] pos) pos' :: rest) R :=
  j_step (ps_expr (hpe ho he) hs) fun E σ H lo hm k => ⟨lo, hm, fun v H1 s1 m1 z1 => by
    cases z1
    obtain ⟨xs1, e1, _⟩ := m1 l _ h1
    refine ⟨.inl ⟨rfl, _, SqL.of e1⟩, lo.mono s1, m1, fun v2 H2 s2 m2 z2 => ?_⟩
    obtain ⟨xs, e2, za⟩ := m2 l _ hl
    have sP : Sx H2 (upd H2 l (.lst (xs ++ [v2]))) := Sx.put e2 True.intro
    exact ⟨l, xs, v2, rfl, rfl, e2, by rw [za.length]; exact Nat.lt_of_lt_of_le hz (by decide), k _ _ _ _ ((s1.trans s2).trans sP) (((lo.mono s1).mono s2).mono sP) (m2.put (m := .lst (ds ++ [d])) sP ⟨_, upd_same, (za.app (.one z2)).mono sP⟩) hk⟩⟩
theorem j_ext {l : Addr} (ho : Ev X Γ M o (.obj l) M1) (he : Ev X Γ M1 e (.lst ds) M2) (hl : M2 l = some (.lst dd)) (hz : dd.length + ds.length < 100000) (hk : Jss X Γ (M2.put l (.lst (dd ++ ds))) rest R) (h1 : M1 l = some (.lst zs))
    (hpe : ∀ {to te : TE}, PE X o to → PE X e te → PE X (.Call (.Attribute o "extend" apos) [e] [] pos) (tBM X.K "list" rExtendF to (tCons te tNil)) := by exact fun h1 h2 => pe_bm PySem.F.plainAttrs_list PySem.F.slot_list_extend PySem.F.type_list_extend mt_extendF h1 (pa_cons h2 pa_nil))
    (hs : swapsWith (.Call (.Attribute o "extend" apos) [e] [] pos) none pos'.line X.env = pure false := by rfl) : Jss X Γ M (.Expr (.Call (.Attribute o "extend" apos) [e] [] pos) pos' :: rest) R :=
  j_step (ps_expr (hpe ho he) hs) fun E σ H lo hm k => ⟨lo, hm, fun v H1 s1 m1 z1 => by
    cases z1
    obtain ⟨xs1, e1, _⟩ := m1 l _ h1
    refine ⟨.inl ⟨rfl, _, SqL.of e1⟩, lo.mono s1, m1, fun v2 H2 s2 m2 z2 => ?_⟩
    obtain ⟨xs, e2, za⟩ := m2 l _ hl
    cases z2 with
    | @lst b ys _ hq zb =>
      have sP : Sx H2 (upd H2 l (.lst (xs ++ ys))) := Sx.put e2 True.intro
      exact ⟨l, b, xs, ys, rfl, rfl, e2, .inr hq, by rw [za.length, zb.length]; exact Nat.le_of_lt (Nat.lt_of_lt_of_le hz (by decide)), k _ _ _ _ ((s1.trans s2).trans sP) (((lo.mono s1).mono s2).mono sP) (m2.put (m := .lst (dd ++ ds)) sP ⟨_, upd_same, (za.app zb).mono sP⟩) hk⟩⟩
/-- l[i] = e -/
theorem j_ixset {l : Addr} {i : Int} {j : Nat} (he : Ev X Γ M e d M1) (ho : Ev X Γ M1 o (.obj l) M2) (hi : Ev X Γ M2 b (.int i) M3) (hl : M3 l = some (.lst ds)) (hj : ixN ds.length i = some j) (hk : Jss X Γ (M3.put l (.lst (ds.set j d))) rest R)
    (hs : swapsWithSole [.Subscript o b pos'] e pos.line X.env = pure false := by rfl) (hw : swappedStores [.Subscript o b pos'] e X.env = pure none := by rfl)
    (h1 : (assignEach [.Subscript o b pos'] X.env).map (·.2) = [assign (.Subscript o b pos') X.env] := by rfl)
    (ha : ∀ v, assign (.Subscript o b pos') X.env v = (do
      let ov ← holding [v] (eval o X.env)
      let iv ← holding [v, ov] (eval b X.env)
      standAt pos'
      holding [v, ov, iv] (setItem ov iv v)
      release [v, ov, iv] []) := by intro _; rfl) : Jss X Γ M (.Assign [.Subscript o b pos'] e pos :: rest) R :=
  j_step (ps_asg he (pg_sub ho hi set_list ha) hs hw h1) fun E σ H lo hm k => ⟨lo, hm, fun v H1 s1 m1 z1 => ⟨lo.mono s1, m1, fun u H2 s2 m2 z2 => ⟨(lo.mono s1).mono s2, m2, fun w H3 s3 m3 z3 => by
    cases z2
    cases z3
    obtain ⟨xs, e3, za⟩ := m3 l _ hl
    have sP : Sx H3 (upd H3 l (.lst (xs.set j v))) := Sx.put e3 True.intro
    have sA := (s1.trans s2).trans s3
    exact ⟨l, xs, i, j, rfl, rfl, e3, by rw [za.length]; exact hj, k _ _ _ _ (sA.trans sP) ((lo.mono sA).mono sP) (m3.put (m := .lst (ds.set j d)) sP ⟨_, upd_same, (za.set j ((z1.mono s2).mono s3)).mono sP⟩) hk⟩⟩⟩⟩
end
end PR

set_option Elab.async false
set_option linter.all false
set_option maxRecDepth 100000
set_option maxHeartbeats 4000000
/-! PR, part 6: defs; short comprehensions; classes; equality. -/
namespace PR
open PySem PySem.Spec PyProof.Rows L2
section
variable {P : Program} {w : World} {K : PySem.W.Frag} {mg : Str → Option Value} {base : Heap} {x qual : Str} {params : Arguments} {body : List Stmt} {scope : Scope} {dvs : List V} {kws : List (Str × V)} {f : Addr} {fd : FuncData} {N ps : List Str} {k : Nat} {sp : SpD}
theorem fn_ok (F : FunD K x qual params body scope dvs kws f fd) (S : FnScope N ps scope) (hlen : ∀ ds M Q, sp ds M Q → ds.length = ps.length) (hpl : ps.length ≤ N.length)
    (hb : ∀ (cdv : Value) (A : Around) (outer : List Env) (s : Shared) (H : Hp) (E : XK), Room k (A.deeper (envOfC qual scope s.heap.objs.size f cdv)) → ∀ ds M Q, sp ds M Q →
      Jss (cxOf CX0 P w K mg base N qual scope f cdv A outer s H E).nox (ds.map some ++ List.replicate (N.length - ds.length) none) M body { nx := fun _ M' => Q .non M', rt := Q }) : FnOk P w K mg base CX0 (k + 1) f fd ps (toSp K sp) := by
  refine F.ok S (fun vs H Q E h => ?_) (fun cdv A outer s H vs Q E hr h => ?_)
  · obtain ⟨ds, M, z, _, hs⟩ := h
    rw [z.length]
    exact hlen _ _ _ hs
  · obtain ⟨ds, M, z, hm, hs⟩ := h
    refine ⟨_, (hb cdv A outer s H E hr ds M _ hs).nox, lo_start z (by rw [hlen _ _ _ hs]; exact hpl), hm, ?_⟩
    exact ⟨fun σ' H' Γ' M' s1 _ m1 q => q _ H' s1 m1 .non, fun v H' d M' s1 m1 z1 q => q v H' s1 m1 z1, fun _ _ _ _ _ _ _ q => q.elim, fun _ _ _ _ _ _ _ q => q.elim⟩
theorem fg_mk {n : Str} (ok : FnOk P w K mg base CX0 k f fd ps (toSp K sp)) (hm : mg n = some (.ref f)) (hk : PySem.W.keepIn K (.ref f) = true) (hb : Binds K fd ps []) : Fg P w K mg base k n ps [] sp := ⟨f, fd, ok, hm, hk, [], [], hb, .nil, fun _ => .nil⟩
theorem mt_mk {C : Addr} {m : Str} (ok : FnOk P w K mg base CX0 k f fd ps (toSp K sp)) (cl : Cls K C) (hm : Meth K C m f) (hb : Binds K fd ps []) : Mt P w K mg base k C m ps [] sp := ⟨⟨f, fd, ok, hm, [], [], hb, .nil, fun _ => .nil⟩, cl⟩
theorem cg_mk {C : Addr} {n : Str} (ok : FnOk P w K mg base CX0 k f fd ps (toSp K sp)) (hmg : mg n = some (.ref C)) (hm : Mk K C f) (hb : Binds K fd ps []) : Cg P w K mg base k n C ps [] sp := ⟨⟨f, fd, ok, hm, [], [], hb, .nil, fun _ => .nil⟩, hmg⟩
/-- the same def under another name of the module -/
theorem Fg.alias {n n' : Str} {dd : List D} (F : Fg P w K mg base k n ps dd sp) (h : mg n' = mg n) : Fg P w K mg base k n' ps dd sp := by
  obtain ⟨f, fd, a, b, c, d⟩ := F.ex
  exact ⟨f, fd, a, h.trans b, c, d⟩
theorem Fg.imp {n : Str} {dd : List D} {sp' : SpD} (F : Fg P w K mg base k n ps dd sp) (h : ∀ ds M Q, sp' ds M Q → sp ds M Q) : Fg P w K mg base k n ps dd sp' := by
  obtain ⟨f, fd, a, b, c, d⟩ := F.ex
  exact ⟨f, fd, a.imp fun vs H Q E ⟨ds, M, z, m, q⟩ => ⟨ds, M, z, m, h _ _ _ q⟩, b, c, d⟩
end

section
variable {X : Cx} {Γ : Gm} {M M1 M2 M3 : Mem} {a b e o : Expr} {es : List Expr} {x y z d : D} {ds dd zs : List D} {pos apos p pos' : Pos} {k : Nat} {n m : Str} {C : Addr} {R : En} {st : Stmt} {rest sa sb : List Stmt}
variable {elt tg it : Expr} {ifs : List Expr} {scope : Scope} {own : List (Str × Nat)} {js : List Nat} {f : Tg}
/-! ### short comprehensions -/
/-- each item's value, nothing changed -/
theorem lcP (g : D → D) (hi : Wk X tg Γ M it ds M1) (hg : Bk X scope fun Y => Tgt Y tg js f) (hj : ∀ j ∈ js, j ∈ own.map (·.2))
    (hf : ∀ (i : Nat) (x : D), ds[i]? = some x → ∃ Γ2, f x (wipeG Γ (own.map (·.2))) = some Γ2 ∧ ∀ N, Mem.Le M1 N → Bk X scope fun Y => Ev Y Γ2 N elt (g x) N) (hz : ds.length ≤ 100000)
    (ok : BlkOk X.N X.env.scope scope own := by exact blkOk_by (by kernel_rfl)) (hN : X.N.Nodup := by assumption) (hc : X.calm = true := by rfl) (hs : ∀ x, foldedSetIterable it X.env x = pure x := by intro _; rfl) :
    LcOk X Γ M elt tg it [] scope own (ds.map g) M1 := by
  have h := lc (X := X) (elt := elt) (ifs := []) (fun _ => M1) (fun i => (ds.take i).map g) hi hg hj rfl (by simp) (fun _ _ h => h) hz (fun i => by simp; exact Nat.min_le_left _ _) (fun _ _ => true) (fun _ N => N) (fun i _ => g (ds.getD i .non)) (fun _ N => N)
    (fun i x hx => by
      obtain ⟨Γ2, h1, h2⟩ := hf i x hx
      refine ⟨Γ2, h1, fun N hN => ⟨fun _ _ _ _ _ => ts_nil, fun _ _ _ h => h, fun _ => ?_, fun h => by cases h⟩⟩
      have ex : ds.getD i .non = x := by rw [List.getD_eq_getElem?_getD, hx]; rfl
      refine ⟨by simp only [ex]; exact h2 N hN, fun _ _ _ h => h, hN, ?_⟩
      simp only [ex]
      rw [List.take_succ, hx]
      simp) ok hN hc hs
  simpa using h
theorem n_lcP (g : D → D) (hi : Wk X tg Γ M it ds M1) (hg : Bk X scope fun Y => Tgt Y tg js f) (hj : ∀ j ∈ js, j ∈ own.map (·.2))
    (hf : ∀ (i : Nat) (x : D), ds[i]? = some x → ∃ Γ2, f x (wipeG Γ (own.map (·.2))) = some Γ2 ∧ ∀ N, Mem.Le M1 N → Bk X scope fun Y => Ev Y Γ2 N elt (g x) N) (hz : ds.length ≤ 100000)
    (ok : BlkOk X.N X.env.scope scope own := by exact blkOk_by (by kernel_rfl)) (hN : X.N.Nodup := by assumption) (hc : X.calm = true := by rfl) (hs : ∀ x, foldedSetIterable it X.env x = pure x := by intro _; rfl) :
    EvN X Γ M (.ListComp elt [⟨tg, it, [], 0⟩] scope pos) (ds.map g) M1 := lc_n (lcP (g := g) (hi := hi) (hg := hg) (hj := hj) (hf := hf) (hz := hz) (ok := ok) (hN := hN) (hc := hc) (hs := hs))
/-- the items that pass a test -/
theorem lcF {c : Expr} (t : D → Bool) (g : D → D) (hi : Wk X tg Γ M it ds M1) (hg : Bk X scope fun Y => Tgt Y tg js f) (hj : ∀ j ∈ js, j ∈ own.map (·.2))
    (hf : ∀ (i : Nat) (x : D), ds[i]? = some x → ∃ Γ2, f x (wipeG Γ (own.map (·.2))) = some Γ2 ∧ ∀ N, Mem.Le M1 N → (Bk X scope fun Y => EvT Y Γ2 N c (t x) N) ∧ (t x = true → Bk X scope fun Y => Ev Y Γ2 N elt (g x) N)) (hz : ds.length ≤ 100000)
    (ok : BlkOk X.N X.env.scope scope own := by exact blkOk_by (by kernel_rfl)) (hN : X.N.Nodup := by assumption) (hc : X.calm = true := by rfl) (hs : ∀ x, foldedSetIterable it X.env x = pure x := by intro _; rfl) :
    LcOk X Γ M elt tg it [c] scope own ((ds.filter t).map g) M1 := by
  have h := lc (X := X) (elt := elt) (ifs := [c]) (fun _ => M1) (fun i => ((ds.take i).filter t).map g) hi hg hj rfl (by simp) (fun _ _ h => h) hz (fun i => by
      rw [List.length_map]
      exact Nat.le_trans (List.length_filter_le _ _) (by simp; exact Nat.min_le_left _ _)) (fun i _ => t (ds.getD i .non)) (fun _ N => N) (fun i _ => g (ds.getD i .non)) (fun _ N => N)
    (fun i x hx => by
      obtain ⟨Γ2, h1, h2⟩ := hf i x hx
      have ex : ds.getD i .non = x := by rw [List.getD_eq_getElem?_getD, hx]; rfl
      refine ⟨Γ2, h1, fun N hN => ?_⟩
      obtain ⟨h3, h4⟩ := h2 N hN
      simp only [ex]
      refine ⟨fun s H C cl fp => ts_one (h3 s H C cl fp), fun _ _ _ h => h, fun ht => ⟨h4 ht, fun _ _ _ h => h, hN, ?_⟩, fun ht => ⟨hN, ?_⟩⟩
      · rw [List.take_succ, hx]
        simp [List.filter_append, ht]
      · rw [List.take_succ, hx]
        simp [List.filter_append, ht]) ok hN hc hs
  simpa using h
theorem n_lcF {c : Expr} (t : D → Bool) (g : D → D) (hi : Wk X tg Γ M it ds M1) (hg : Bk X scope fun Y => Tgt Y tg js f) (hj : ∀ j ∈ js, j ∈ own.map (·.2))
    (hf : ∀ (i : Nat) (x : D), ds[i]? = some x → ∃ Γ2, f x (wipeG Γ (own.map (·.2))) = some Γ2 ∧ ∀ N, Mem.Le M1 N → (Bk X scope fun Y => EvT Y Γ2 N c (t x) N) ∧ (t x = true → Bk X scope fun Y => Ev Y Γ2 N elt (g x) N)) (hz : ds.length ≤ 100000)
    (ok : BlkOk X.N X.env.scope scope own := by exact blkOk_by (by kernel_rfl)) (hN : X.N.Nodup := by assumption) (hc : X.calm = true := by rfl) (hs : ∀ x, foldedSetIterable it X.env x = pure x := by intro _; rfl) :
    EvN X Γ M (.ListComp elt [⟨tg, it, [c], 0⟩] scope pos) ((ds.filter t).map g) M1 := lc_n (lcF (t := t) (g := g) (hi := hi) (hg := hg) (hj := hj) (hf := hf) (hz := hz) (ok := ok) (hN := hN) (hc := hc) (hs := hs))
/-- a list that changes from turn to turn -/
theorem le_upd {b : Addr} {x y : MO} {N : Mem} (h : Mem.Le (M.put b x) N) : Mem.Le (M.put b y) (N.put b y) := fun a o q => by
  by_cases e : a = b
  · rw [e, put_same] at q
    rw [e, put_same]
    exact q
  · rw [put_ne e] at q
    rw [put_ne e]
    exact h a o (by rw [put_ne e]; exact q)
theorem lcB {bx : Addr} (B : Nat → List D) (g : Nat → D) (hi : Wk X tg Γ M it ds M1) (hg : Bk X scope fun Y => Tgt Y tg js f) (hj : ∀ j ∈ js, j ∈ own.map (·.2)) (hB : M1 bx = some (.lst (B 0)))
    (hf : ∀ (i : Nat) (x : D), ds[i]? = some x → ∃ Γ2, f x (wipeG Γ (own.map (·.2))) = some Γ2 ∧ ∀ N, Mem.Le (M1.put bx (.lst (B i))) N → Bk X scope fun Y => Ev Y Γ2 N elt (g i) (N.put bx (.lst (B (i + 1))))) (hz : ds.length ≤ 100000)
    (ok : BlkOk X.N X.env.scope scope own := by exact blkOk_by (by kernel_rfl)) (hN : X.N.Nodup := by assumption) (hc : X.calm = true := by rfl) (hs : ∀ x, foldedSetIterable it X.env x = pure x := by intro _; rfl) :
    LcOk X Γ M elt tg it [] scope own ((List.range ds.length).map g) (M1.put bx (.lst (B ds.length))) := by
  have hnone : ∀ i l, M1 l = none → (M1.put bx (.lst (B i))) l = none := fun i l h => by
    rw [put_ne (fun z => by rw [z, hB] at h; cases h)]
    exact h
  exact lc (X := X) (elt := elt) (ifs := []) (fun i => M1.put bx (.lst (B i))) (fun i => (List.range i).map g) hi hg hj (put_id hB) (by simp) hnone hz (fun i => by simp) (fun _ _ => true) (fun _ N => N) (fun i _ => g i) (fun i N => N.put bx (.lst (B (i + 1))))
    (fun i x hx => by
      obtain ⟨Γ2, h1, h2⟩ := hf i x hx
      refine ⟨Γ2, h1, fun N hN => ⟨fun _ _ _ _ _ => ts_nil, fun _ _ _ h => h, fun _ => ⟨h2 N hN, fun a o h q => ?_, le_upd hN, ?_⟩, fun h => by cases h⟩⟩
      · rw [put_ne (fun z => by rw [z, put_same] at h; cases h)]
        exact q
      · simp only [List.range_succ, List.map_append, List.map_cons, List.map_nil]) ok hN hc hs
theorem n_lcB {bx : Addr} (B : Nat → List D) (g : Nat → D) (hi : Wk X tg Γ M it ds M1) (hg : Bk X scope fun Y => Tgt Y tg js f) (hj : ∀ j ∈ js, j ∈ own.map (·.2)) (hB : M1 bx = some (.lst (B 0)))
    (hf : ∀ (i : Nat) (x : D), ds[i]? = some x → ∃ Γ2, f x (wipeG Γ (own.map (·.2))) = some Γ2 ∧ ∀ N, Mem.Le (M1.put bx (.lst (B i))) N → Bk X scope fun Y => Ev Y Γ2 N elt (g i) (N.put bx (.lst (B (i + 1))))) (hz : ds.length ≤ 100000)
    (ok : BlkOk X.N X.env.scope scope own := by exact blkOk_by (by kernel_rfl)) (hN : X.N.Nodup := by assumption) (hc : X.calm = true := by rfl) (hs : ∀ x, foldedSetIterable it X.env x = pure x := by intro _; rfl) :
    EvN X Γ M (.ListComp elt [⟨tg, it, [], 0⟩] scope pos) ((List.range ds.length).map g) (M1.put bx (.lst (B ds.length))) := lc_n (lcB (B := B) (g := g) (hi := hi) (hg := hg) (hj := hj) (hB := hB) (hf := hf) (hz := hz) (ok := ok) (hN := hN) (hc := hc) (hs := hs))
/-! ### other walks -/
/-- enumerate(xs), zip(xs, ys): pairs -/
def enumD (ds : List D) : List D := (List.range ds.length).map fun i : Nat => D.tup [.int (i : Int), ds.getD i .non]
theorem enumD_len : (enumD ds).length = ds.length := by unfold enumD; simp
theorem enumD_at {i : Nat} (h : (enumD ds)[i]? = some d) : ∃ x, ds[i]? = some x ∧ d = .tup [.int (i : Int), x] := by
  unfold enumD at h
  rw [List.getElem?_map] at h
  obtain ⟨j, e1, e2⟩ := Option.map_eq_some_iff.mp h
  obtain ⟨h1, h2⟩ := List.getElem?_eq_some_iff.mp e1
  rw [List.length_range] at h1
  rw [List.getElem_range] at h2
  subst h2
  exact ⟨ds[i], List.getElem?_eq_getElem h1, by rw [← e2, List.getD_eq_getElem?_getD, List.getElem?_eq_getElem h1]; rfl⟩
theorem k_enumL {elts : List Expr} {kk : Nat} {tpos : Pos} (h : EvA X Γ M [e] [.lst ds] M1) (hm : X.mg "enumerate" = none) (hg : Gl X "enumerate" := by rfl) (hs : starEach [e] X.env = [(false, eval e X.env)] := by rfl) : Wk X (.Tuple elts kk tpos) Γ M (.Call (.Name "enumerate" p) [e] [] pos) (enumD ds) M1 :=
  pi_imp (pi_enum hg hm h hs) fun σ H R ⟨lo, hM, q⟩ => ⟨lo, hM, fun vs H1 s1 m1 z1 => by
    cases z1 with
    | cons z1 z2 =>
      cases z2
      cases z1 with
      | @lst a xs _ hq za =>
        refine ⟨a, xs, rfl, hq.sq, q _ H1 s1 m1 (fun i H' s2 hi => ?_) (fun i H' s2 hi => ?_) (fun i H' x H'' s2 y d hd => ?_)⟩
        · rw [enumD_len] at hi
          obtain ⟨v, hv, _⟩ := za.at_ (List.getElem?_eq_getElem hi)
          exact ⟨xs, v, (s2.sqf hq).sq, hv⟩
        · rw [enumD_len] at hi
          exact ⟨xs, (s2.sqf hq).sq, by rw [za.length]; exact hi⟩
        · obtain ⟨T, v, e1, hT, e2, hv⟩ := y
          subst e1 e2
          obtain ⟨x, hx, ed⟩ := enumD_at hd
          subst ed
          obtain ⟨d', hd', zd⟩ := za.of_at (hv xs (s2.sqf hq).sq)
          rw [hx] at hd'
          cases hd'
          exact ⟨Sx.new hT, .tup (.inl (.inl upd_same)) (.cons (.int _) (.cons ((zd.mono s2).mono (Sx.new hT)) .nil)), fun N hN => hN.new hT⟩⟩
def zipD (ds zs : List D) : List D := (List.range (min ds.length zs.length)).map fun i : Nat => D.tup [ds.getD i .non, zs.getD i .non]
theorem zipD_len : (zipD ds zs).length = min ds.length zs.length := by unfold zipD; simp
theorem zipD_at {i : Nat} (h : (zipD ds zs)[i]? = some d) : ∃ x y, ds[i]? = some x ∧ zs[i]? = some y ∧ d = .tup [x, y] := by
  unfold zipD at h
  rw [List.getElem?_map] at h
  obtain ⟨j, e1, e2⟩ := Option.map_eq_some_iff.mp h
  obtain ⟨h1, h2⟩ := List.getElem?_eq_some_iff.mp e1
  rw [List.length_range] at h1
  rw [List.getElem_range] at h2
  subst h2
  have i1 : i < ds.length := by omega
  have i2 : i < zs.length := by omega
  exact ⟨ds[i], zs[i], List.getElem?_eq_getElem i1, List.getElem?_eq_getElem i2, by rw [← e2, List.getD_eq_getElem?_getD, List.getD_eq_getElem?_getD, List.getElem?_eq_getElem i1, List.getElem?_eq_getElem i2]; rfl⟩
theorem k_zipL {elts : List Expr} {kk : Nat} {tpos : Pos} (h : EvA X Γ M [a, b] [.lst ds, .lst zs] M1) (hm : X.mg "zip" = none) (hg : Gl X "zip" := by rfl) (hs : starEach [a, b] X.env = (false, eval a X.env) :: starEach [b] X.env := by rfl) (hpl : (backTo pos (starEach [b] X.env)).any (·.1) = false := by rfl) :
    Wk X (.Tuple elts kk tpos) Γ M (.Call (.Name "zip" p) [a, b] [] pos) (zipD ds zs) M1 :=
  pi_imp (pi_zip hg hm h hs hpl) fun σ H R ⟨lo, hM, q⟩ => ⟨lo, hM, fun vs H1 s1 m1 z1 => by
    cases z1 with
    | cons z1 z2 =>
      cases z2 with
      | cons z2 z3 =>
        cases z3
        cases z1 with
        | @lst a xs _ hq za =>
          cases z2 with
          | @lst b ys _ hq2 zb =>
            refine ⟨a, b, xs, ys, rfl, hq.sq, hq2.sq, q _ H1 s1 m1 (fun i H' s2 hi => ?_) (fun i H' s2 hi => ?_) (fun i H' x H'' s2 y d hd => ?_)⟩
            · rw [zipD_len] at hi
              obtain ⟨v, hv, _⟩ := za.at_ (List.getElem?_eq_getElem (show i < ds.length by omega))
              obtain ⟨u, hu, _⟩ := zb.at_ (List.getElem?_eq_getElem (show i < zs.length by omega))
              exact ⟨xs, ys, v, u, (s2.sqf hq).sq, (s2.sqf hq2).sq, hv, hu⟩
            · rw [zipD_len] at hi
              exact ⟨xs, ys, (s2.sqf hq).sq, (s2.sqf hq2).sq, by rw [za.length, zb.length]; omega⟩
            · obtain ⟨T, v, u, e1, hT, e2, hv, hu⟩ := y
              subst e1 e2
              obtain ⟨x, y, hx, hy, ed⟩ := zipD_at hd
              subst ed
              obtain ⟨d', hd', zd⟩ := za.of_at (hv xs (s2.sqf hq).sq)
              rw [hx] at hd'
              cases hd'
              obtain ⟨d', hd', zd2⟩ := zb.of_at (hu ys (s2.sqf hq2).sq)
              rw [hy] at hd'
              cases hd'
              exact ⟨Sx.new hT, .tup (.inl (.inl upd_same)) (.cons ((zd.mono s2).mono (Sx.new hT)) (.cons ((zd2.mono s2).mono (Sx.new hT)) .nil)), fun N hN => hN.new hT⟩⟩
theorem k_zipT {elts : List Expr} {kk : Nat} {tpos : Pos} (h : EvA X Γ M [a, b] [.tup ds, .tup zs] M1) (hm : X.mg "zip" = none) (hg : Gl X "zip" := by rfl) (hs : starEach [a, b] X.env = (false, eval a X.env) :: starEach [b] X.env := by rfl) (hpl : (backTo pos (starEach [b] X.env)).any (·.1) = false := by rfl) :
    Wk X (.Tuple elts kk tpos) Γ M (.Call (.Name "zip" p) [a, b] [] pos) (zipD ds zs) M1 :=
  pi_imp (RZ.pi_zipA hg hm h hs hpl) fun σ H R ⟨lo, hM, q⟩ => ⟨lo, hM, fun vs H1 s1 m1 z1 => by
    cases z1 with
    | cons z1 z2 =>
      cases z2 with
      | cons z2 z3 =>
        cases z3
        cases z1 with
        | @tup a xs _ hq za =>
          cases z2 with
          | @tup b ys _ hq2 zb =>
            refine ⟨a, b, xs, ys, rfl, .inr ⟨hq, hq2, q _ H1 s1 m1 (fun i H' s2 hi => ?_) (fun i H' s2 hi => ?_) (fun i H' x H'' s2 y d hd => ?_)⟩⟩
            · rw [zipD_len] at hi
              obtain ⟨v, hv, _⟩ := za.at_ (List.getElem?_eq_getElem (show i < ds.length by omega))
              obtain ⟨u, hu, _⟩ := zb.at_ (List.getElem?_eq_getElem (show i < zs.length by omega))
              exact ⟨xs, ys, v, u, s2.sqt hq, s2.sqt hq2, hv, hu⟩
            · rw [zipD_len] at hi
              exact ⟨xs, ys, s2.sqt hq, s2.sqt hq2, by rw [za.length, zb.length]; omega⟩
            · obtain ⟨T, v, u, e1, hT, e2, hv, hu⟩ := y
              subst e1 e2
              obtain ⟨x, y, hx, hy, ed⟩ := zipD_at hd
              subst ed
              obtain ⟨d', hd', zd⟩ := za.of_at (hv xs (s2.sqt hq))
              rw [hx] at hd'
              cases hd'
              obtain ⟨d', hd', zd2⟩ := zb.of_at (hu ys (s2.sqt hq2))
              rw [hy] at hd'
              cases hd'
              exact ⟨Sx.new hT, .tup (.inl (.inl upd_same)) (.cons ((zd.mono s2).mono (Sx.new hT)) (.cons ((zd2.mono s2).mono (Sx.new hT)) .nil)), fun N hN => hN.new hT⟩⟩
end
end PR

set_option Elab.async false
set_option linter.all false
set_option maxRecDepth 100000
set_option maxHeartbeats 4000000
/-! PR, part 7: further rules: repeated tuples and texts, targets that are attributes, C.m(..), isinstance, == of data, in. -/
namespace PR
open PySem PySem.Spec PyProof.Rows L2

/-! ### t * k, s * k -/
theorem tuple_mul1 (l : Addr) (items : Array Value) (n : Nat) (dd : Option Addr) (sl : Array (Option Value)) (u : Tok) :
    Meets (Builtin.«tuple.__mul__» ⟨[.ref l, .int 1 u], []⟩) (fun _ R s => s.heap.get? l = some { cls := .type "tuple", dict := dd, data := .seq items n, slots := sl } ∧ R (.ok (.ret (Value.ref l))) s) :=
  .of_wp fun prog w A R s h => by
    obtain ⟨hp, g, d, tk, os⟩ := s
    obtain ⟨hl, h⟩ := h
    have f1 := AutoSeq1.idx_int
    wp_walk using wpAny_loadPart' hl
    repeat (first
      | (refine wpAny_ite_false (by decide) ?_; wp_walk using wpAny_loadPart' hl)
      | (refine wpAny_ite_true (by simp) ?_; wp_walk using wpAny_loadPart' hl))
    exact ⟨_, rfl, h⟩
theorem tuple_mul0 (l : Addr) (it : Value) (its : List Value) (n : Nat) (dd : Option Addr) (sl : Array (Option Value)) (u : Tok) :
    Meets (Builtin.«tuple.__mul__» ⟨[.ref l, .int 0 u], []⟩) (fun _ R s => s.heap.get? l = some { cls := .type "tuple", dict := dd, data := .seq (it :: its).toArray n, slots := sl } ∧
      R (.ok (.ret (Value.ref s.heap.objs.size))) { s with heap := s.heap.push { cls := Value.type "tuple", data := Data.seq #[] }, toks := s.toks }) :=
  .of_wp fun prog w A R s h => by
    obtain ⟨hp, g, d, tk, os⟩ := s
    obtain ⟨hl, h⟩ := h
    have f1 := AutoSeq1.idx_int
    wp_walk using wpAny_loadPart' hl
    repeat (first
      | (refine wpAny_ite_false (by decide) ?_; wp_walk using wpAny_loadPart' hl)
      | (refine wpAny_ite_false (by simp) ?_; wp_walk using wpAny_loadPart' hl)
      | (refine wpAny_ite_true (by simp) ?_; wp_walk using wpAny_loadPart' hl))
    exact ⟨_, rfl, h⟩
section
variable {X : Cx}
def rRepTF (K : PySem.W.Frag) : R2 := fun x y H Q => ∃ l k xs, x = .ref l ∧ y = .int k ∧ SqT K H l xs ∧ xs ≠ [] ∧ 0 ≤ k ∧ k ≤ 1000 ∧ xs.length ≤ 1000 ∧ (k = 1 → Q (.ref l) H) ∧ (k ≠ 1 → ∀ p, H p = none → Q (.ref p) (upd H p (.tup (List.replicate k.toNat xs).flatten)))
theorem op_repTF : OpR X (binaryOp .Mult) (rRepTF X.K) := by
  intro pins s σ H x y v u Q I rx ry h
  obtain ⟨l, k, xs, rfl, rfl, hT, hne, h1, h2, hz, q1, q2⟩ := h
  by_cases hk2 : 2 ≤ k
  · exact op_repT pins s σ H _ _ v u Q I rx ry ⟨l, k, xs, rfl, rfl, hT, hne, hk2, h2, hz, q2 (by omega)⟩
  cases rx
  obtain ⟨t, rfl⟩ := ry
  obtain ⟨its, r, ⟨⟨cls, dd, data, sl⟩, ho, hc, n, hd⟩, hs⟩ := I.tuple hT
  simp only at hc hd
  subst hc hd
  have hle : its.length = xs.length := r.length.symm
  cases its with
  | nil => exact absurd (List.eq_nil_of_length_eq_zero hle.symm) hne
  | cons it its =>
    by_cases hk1 : k = 1
    · subst hk1
      exact wpAny_binaryOp_repeat_ref (T := "tuple") (U := "int") (by decide) ⟨_, ho, rfl⟩ (fun s' => typeIs_int s' 1 t) noFill_tuple_mul F.fills_int_mul F.slot_int_rmul repeat_tuple F.slot_int_index.lookup
        (call_meets F.slot_int_rmul (typeIs_int s 1 t) F.entry_int_rmul (F.args_int_rmul_2 _ _) (int_rmul_tuple 1 t l (it :: its).toArray n dd sl)
          ⟨ho, rfl, ⟨_, ho, rfl⟩, call_meets F.slot_tuple_mul ⟨_, ho, rfl⟩ F.entry_tuple_mul (F.args_tuple_mul_2 _ _) (tuple_mul1 l (it :: its).toArray n dd sl t) ⟨ho, .ref l, H, I, rfl, q1 rfl⟩⟩)
    · have hk0 : k = 0 := by omega
      subst hk0
      have hnew : H s.heap.objs.size = none := I.fresh
      refine wpAny_binaryOp_repeat_ref (T := "tuple") (U := "int") (by decide) ⟨_, ho, rfl⟩ (fun s' => typeIs_int s' 0 t) noFill_tuple_mul F.fills_int_mul F.slot_int_rmul repeat_tuple F.slot_int_index.lookup
        (call_meets F.slot_int_rmul (typeIs_int s 0 t) F.entry_int_rmul (F.args_int_rmul_2 _ _) (int_rmul_tuple 0 t l (it :: its).toArray n dd sl)
          ⟨ho, rfl, ⟨_, ho, rfl⟩, call_meets F.slot_tuple_mul ⟨_, ho, rfl⟩ F.entry_tuple_mul (F.args_tuple_mul_2 _ _) (tuple_mul0 l it its n dd sl t) ⟨ho, ?_⟩⟩)
      refine ⟨.ref s.heap.objs.size, upd H s.heap.objs.size (.tup []), I.laid (t' := s.toks) (fun b u e => Heap.get?_push_of_some _ e) (Nat.le_refl _) ?_, rfl, q2 (by decide) _ hnew⟩
      exact ⟨Nat.zero_le _, [], .nil, ⟨_, Heap.get?_push_size _ rfl, rfl, _, rfl⟩⟩
/-- s * k -/
theorem op_mulS : OpR X (binaryOp .Mult) (fun x y H Q => ∃ (z : Str) (k : Int), x = .str z ∧ y = .int k ∧ 1 ≤ k ∧ k ≤ 1000 ∧ z.length ≤ 1000 ∧ Q (.str ⟨((List.replicate k.toNat z.cps.toList).flatten).toArray⟩) H) := by
  intro pins s σ H x y v u Q I rx ry h
  obtain ⟨z, k, rfl, rfl, h1, h2, hz, q⟩ := h
  obtain ⟨t, rfl⟩ := rx
  obtain ⟨t2, rfl⟩ := ry
  have fl : ∀ m : Nat, List.foldl (fun x1 x2 => x1 ++ x2) #[] (List.replicate m z.cps) = ((List.replicate m z.cps.toList).flatten).toArray := fun m => by
    have h0 : ∀ (m : Nat) (acc : Array Nat), List.foldl (fun x1 x2 => x1 ++ x2) acc (List.replicate m z.cps) = acc ++ ((List.replicate m z.cps.toList).flatten).toArray := by
      intro m
      induction m with
      | zero => intro acc; simp
      | succ m ih =>
        intro acc
        simp only [List.replicate_succ, List.foldl_cons, List.flatten_cons]
        rw [ih]
        apply Array.toList_inj.mp
        simp
    rw [h0]
    simp
  have hl : z.length * k.toNat ≤ 1000 * 1000 := Nat.mul_le_mul hz (by omega)
  refine PySem.P.mul_str (by rw [decide_eq_false (by omega), decide_eq_false (by omega)] <;> rfl) (fun _ _ => ?_) (fun _ _ => ?_) ?_
  · have : (1000 : Int) ≤ (2 ^ 63 - 1) / k := by
      rw [Int.le_ediv_iff_mul_le (by omega)]
      omega
    omega
  · unfold Builtin.Str.tooLong
    first
      | exact decide_eq_false (by rw [sizeLine_eq]; omega)
      | (simp only [sizeLine_eq]; exact decide_eq_false (by omega))
  · rw [if_neg (by omega)]
    by_cases hc : (k == 1 || z.length == 0) = true
    · rw [if_pos hc]
      have e : (⟨((List.replicate k.toNat z.cps.toList).flatten).toArray⟩ : Str) = z := by
        rcases (Bool.or_eq_true_iff.mp hc) with h | h
        · have : k = 1 := by simpa using h
          subst this
          simp
        · have h0 : z.cps.toList = [] := by
            have h1 : z.length = 0 := by simpa using h
            have h2 : z.cps.size = 0 := h1
            exact List.eq_nil_of_length_eq_zero (by simpa using h2)
          rw [h0]
          have : z.cps = #[] := by
            apply Array.toList_inj.mp
            exact h0
          cases z
          simp at this
          subst this
          simp
      rw [e] at q
      exact ⟨.str z, H, I, ⟨t, rfl⟩, q⟩
    · rw [if_neg hc, fl]
      refine ⟨?_, .str _, H, I.tok _, ⟨_, rfl⟩, q⟩
      show _ ≤ sizeLine
      have : ((List.replicate k.toNat z.cps.toList).flatten).toArray.size ≤ sizeLine := by
        rw [sizeLine_eq, List.size_toArray, PyProof.Rows.lm_len_rep_flat, Array.length_toList]
        have : z.cps.size = z.length := rfl
        rw [this, Nat.mul_comm]
        omega
      exact this
end
section
variable {X : Cx} {Γ : Gm} {M M1 M2 M3 : Mem} {a b e o : Expr} {es : List Expr} {x y z d : D} {ds dd zs : List D} {pos apos p pos' : Pos} {k : Nat} {n m : Str} {C : Addr} {R : En} {st : Stmt} {rest sa sb : List Stmt}
theorem e_repT {i : Int} (hne : ds ≠ []) (hi : 0 ≤ i ∧ i ≤ 1000) (hz : ds.length ≤ 1000) (ha : Ev X Γ M a (.tup ds) M1) (hb : Ev X Γ M1 b (.int i) M2) : Ev X Γ M (.BinOp a .Mult b pos) (.tup (List.replicate i.toNat ds).flatten) M2 := e_op op_repTF (fun H M u v z1 z2 m Q q => by
  cases z1 with
  | @tup a xs _ hq za =>
    cases z2
    refine ⟨a, i, xs, rfl, rfl, hq, fun e => hne ?_, hi.1, hi.2, by rw [za.length]; exact hz, fun h1 => ?_, fun _ p hp => ?_⟩
    · subst e
      cases za
      rfl
    · subst h1
      have e : (List.replicate (1 : Int).toNat ds).flatten = ds := by simp
      rw [e] at q
      exact q _ H (Sx.refl H) m (.tup hq za)
    · exact q _ _ (Sx.new hp) (m.new hp) (.tup (.inl (.inl upd_same)) ((za.rep _).mono (Sx.new hp)))) ha hb
theorem e_mulS {i : Int} {t : Str} (hi : 1 ≤ i ∧ i ≤ 1000) (hz : t.length ≤ 1000) (ha : Ev X Γ M a (.str t) M1) (hb : Ev X Γ M1 b (.int i) M2) : Ev X Γ M (.BinOp a .Mult b pos) (.str ⟨((List.replicate i.toNat t.cps.toList).flatten).toArray⟩) M2 := e_op op_mulS (fun H M u v z1 z2 m Q q => by
  cases z1
  cases z2
  exact ⟨t, i, rfl, rfl, hi.1, hi.2, hz, q _ H (Sx.refl H) m (.str _)⟩) ha hb
/-! ### o.f1, o.f2, .. = a tuple -/
def putsD : List Str → List D → List (Str × D) → List (Str × D)
  | f :: fs, d :: ds, r => putsD fs ds (putD f d r)
  | _, _, r => r
def gA (K : PySem.W.Frag) (i : Nat) (l C : Addr) (ns : List Str) : TGs := fun vs σ H Q => σ[i]? = some (some (.ref l)) ∧ ∃ ds Γ M fs, DzA K H vs ds ∧ ds.length = ns.length ∧ Lo K H σ Γ ∧ Has K H M ∧ M l = some (.ins C fs) ∧ fs.length + ns.length < 1000 ∧ ∀ H', Sx H H' → Lo K H' σ Γ → Has K H' (M.put l (.ins C (putsD ns ds fs))) → Q σ H'
theorem putD_len (f : Str) (d : D) : ∀ fs : List (Str × D), (putD f d fs).length ≤ fs.length + 1
  | [] => by simp [putD]
  | (g, x) :: r => by
    unfold putD
    split
    · simp
    · simp [putD_len f d r]
theorem ga_nil {i : Nat} {l : Addr} : PGs X [] (gA X.K i l C []) := pgs_imp pgs_nil fun vs σ H Q ⟨_, ds, Γ, M, fs, z, hl, lo, hm, hM, _, k⟩ => by
  cases ds with
  | nil =>
    cases z
    refine ⟨rfl, k H (Sx.refl H) lo ?_⟩
    rw [show M.put l (.ins C (putsD [] [] fs)) = M from put_id hM]
    exact hm
  | cons _ _ => simp at hl
theorem ga_cons (i : Nat) {l : Addr} {f : Str} {ns : List Str} {nm : Str} {ps : Pos} (c : Cls X.K C) (hn : NoAttr X.K C f) (h2 : PGs X es (gA X.K i l C ns))
    (hN : X.N[i]? = some nm := by rfl) (hv : Vis X.env.scope nm := by first | exact Or.inl rfl | exact Or.inr (Or.inl rfl) | exact Or.inr (Or.inr rfl)) (hs : (assignEach (.Attribute (.Name nm ps) f pos :: es) X.env).map (·.2) = assign (.Attribute (.Name nm ps) f pos) X.env :: (assignEach es X.env).map (·.2) := by rfl)
    (ha : ∀ v, assign (.Attribute (.Name nm ps) f pos) X.env v = (do
      let ov ← holding [v] (eval (.Name nm ps) X.env)
      standAt pos.atName
      holding [v, ov] (setAttr ov f v)
      release [v, ov] []) := by intro _; rfl) (hd : (nm == ("__debug__" : Str)) = false := by decide) (hcd : (nm == ("__classdict__" : Str)) = false := by decide) :
    PGs X (.Attribute (.Name nm ps) f pos :: es) (gA X.K i l C (f :: ns)) := by
  refine ⟨fun pins s σ H vs us Q I r ⟨hσ, ds, Γ, M, fs, z, hl, lo, hm, hM, hz, k⟩ => ?_⟩
  cases ds with
  | nil => simp at hl
  | cons d ds =>
    cases z with
    | @cons v1 _ _ _ z1 z2 =>
      cases r with
      | cons r1 rr =>
        rw [hs]
        refine assignInOrder_cons ?_
        rw [ha]
        obtain ⟨dx, ws, e2, t2⟩ := hm l _ hM
        refine wpAny_bind (wpAny_holding (thn ((pe_var hN hv hd hcd).run pins s σ H (fun v H1 => v = .ref l ∧ H1 = H) I ⟨_, hσ, rfl, rfl⟩) fun ov s1 ⟨v, H1, I1, rv, ev, eH⟩ => ?_))
        subst ev eH
        obtain rfl : ov = Value.ref l := rv
        refine wpAny_bind (wpAny_standAt (wpAny_bind (wpAny_holding (setattr_ok I1 e2 c hn (by rw [t2.length]; simp at hz; omega) r1 fun s2 I2 => ?_))))
        have sP : Sx H1 (upd H1 l (.ins C dx (putF f v1 ws))) := Sx.put e2 True.intro
        refine wpAny_release ?_
        refine h2.run pins s2 σ _ _ _ Q I2 rr ⟨hσ, ds, Γ, M.put l (.ins C (putD f d fs)), putD f d fs, z2.mono sP, by simpa using hl, lo.mono sP, hm.put (m := .ins C (putD f d fs)) sP ⟨dx, _, upd_same, (t2.put z1).mono sP⟩, put_same, ?_, fun H' s3 lo3 m3 => k H' (sP.trans s3) lo3 ?_⟩
        · have := putD_len f d fs
          simp at hz
          omega
        · rw [put_put] at m3
          exact m3
/-- self.f1, .. = e: self stands in slot i -/
theorem j_unpA (i : Nat) {l : Addr} {fs : List (Str × D)} {ns : List Str} {kk} (he : Ev X Γ M e (.tup ds) M1) (hself : Γ[i]? = some (some (.obj l))) (hi : M1 l = some (.ins C fs)) (ht : PGs X es (gA X.K i l C ns)) (hl : ds.length = ns.length) (hz : fs.length + ns.length < 1000)
    (hk : Jss X Γ (M1.put l (.ins C (putsD ns ds fs))) rest R) (hc : X.calm = true := by rfl) (hn : (assignEach es X.env).length = ns.length := by rfl) (hst : (assignEach es X.env).findIdx? (·.1) = none := by rfl)
    (hs : swapsWithSole [.Tuple es kk pos'] e pos.line X.env = pure false := by rfl) (hw : swappedStores [.Tuple es kk pos'] e X.env = pure none := by rfl) (h1 : (assignEach [.Tuple es kk pos'] X.env).map (·.2) = [assign (.Tuple es kk pos') X.env] := by rfl) : Jss X Γ M (.Assign [.Tuple es kk pos'] e pos :: rest) R :=
  j_step (ps_asg he (pg_tup hc ht hn hst) hs hw h1) fun E σ H lo hm k => ⟨lo, hm, fun v H1 s1 m1 z1 => by
    obtain ⟨w, hw, zw⟩ := lo.at_ i _ hself
    cases zw
    cases z1 with
    | @tup a xs _ hq za => exact ⟨a, xs, rfl, hq, by rw [za.length]; exact hl, hw, ds, Γ, M1, fs, za, hl, lo.mono s1, m1, hi, hz, fun H' s2 lo2 m2 => k _ _ _ _ (s1.trans s2) lo2 m2 hk⟩⟩
/-! ### C.m(..) -/
/-- the class at C has the def at f under the name m -/
structure CFn (K : PySem.W.Frag) (C : Addr) (m : Str) (f : Addr) : Prop where
  rd : ClX.CRead K C (.type "type")
  at_ : PySem.W.findCls K (.ref C) (.type "type") m = some (.val (.ref f))
  kp : PySem.W.keepIn K (.ref f) = true
/-- a class's def, called by the class's name -/
structure Cf (P : Program) (w : World) (K : PySem.W.Frag) (mg : Str → Option Value) (base : Heap) (k : Nat) (C : Addr) (m : Str) (ps : List Str) (dd : List D) (sp : SpD) : Prop where
  ex : ∃ f fd, FnOk P w K mg base CX0 k f fd ps (toSp K sp) ∧ CFn K C m f ∧ Dfl K fd ps dd
theorem e_cfn {pl : Sem Bool} (F : Cf X.prog X.w X.K X.mg X.base k C m ps dd sp) (hr : Room k X.A) (ho : Ev X Γ M o (.obj C) M) (ha : EvA X Γ M (e :: es) ds M1) (hs : ∀ Q : D → Mem → Prop, Q d M2 → sp (ds ++ dd) M1 Q)
    (hst : starEach (e :: es) X.env = (false, eval e X.env) :: starEach es X.env := by rfl) (hpl : (backTo pos (starEach es X.env)).any (·.1) = false := by rfl)
    (ht : eval (.Call (.Attribute o m apos) (e :: es) [] pos) X.env = (do
      let ov ← eval o X.env
      standAt apos.atName
      let (f, first) ← holding [ov] (getMethod ov m pl)
      callWith pos f first (backTo pos (starEach (e :: es) X.env)) (backToKw pos (keywordEach [] X.env))) := by rfl) : Ev X Γ M (.Call (.Attribute o m apos) (e :: es) [] pos) d M2 := by
  obtain ⟨f, fd, hF, hme, dvs, vals, hb, hd, hz⟩ := F.ex
  refine ⟨fun pins s σ H Q I ⟨lo, hM, q⟩ => ?_⟩
  refine PySem.W.methodCall_KW (pl := pl) (thn (ho.run pins s σ H (fun v H1 => v = .ref C ∧ Sx H H1 ∧ Has X.K H1 M) I ⟨lo, hM, fun v H1 s1 m1 z1 => by cases z1; exact ⟨rfl, s1, m1⟩⟩) fun u s1 ⟨v, H1, I1, rv, ev, sx, m1⟩ => ?_) ht
  subst ev
  obtain rfl : u = Value.ref C := rv
  refine PySem.W.method_cls I1.kIn hme.rd.ga (PySem.W.cls_value I1.kIn hme.rd.rd hme.at_ rfl ?_)
  have I2 : Inv X pins σ H1 { s1 with toks := s1.toks + 1 } := I1.tok _
  refine PySem.W.callWith_K (first := []) (h₀ := X.base) I.ok.mod.kin hme.kp (thn (ha.run pos pins _ σ H1 (fun vs H2 => Sx H1 H2 ∧ Has X.K H2 M1 ∧ DzA X.K H2 vs ds) I2 ⟨lo.mono sx, m1, fun vs H2 s2 m2 z2 => ⟨s2, m2, z2⟩⟩) fun us s2 ⟨ws, H2, I3, r, sx2, m2, z2⟩ => ⟨I3.kIn, ?_⟩) hst hpl
  exact run_fn (us := us) (vs := ws) hF hr hb hd (pass0 (X := X)) I3 r ⟨ds ++ dd, M1, z2.app (hz H2), m2, hs _ fun v H' s3 m3 z3 => q v H' ((sx.trans sx2).trans s3) m3 z3⟩
/-! ### isinstance -/
structure Isi (K : PySem.W.Frag) (C : Addr) : Prop where
  cl : Cls K C
  ha : PySem.W.findIn K (.ref C) "__class__" = some (some (.builtin "object.__class__"))
  hn : PySem.W.specialIn K (.builtin "object.__class__") "__get__" = some (some (.builtin "getset_descriptor.__get__"))
  htk : PySem.W.takesIn K (.builtin "object.__class__") = some true
  hm : PySem.W.mroIn K C (.type "object") = some true
/-- a datum's class -/
inductive ClD (K : PySem.W.Frag) (M : Mem) : D → Value → Prop
  | non : ClD K M .non (.type "NoneType")
  | bl (b : Bool) : ClD K M (.bl b) (.type "bool")
  | int (i : Int) : ClD K M (.int i) (.type "int")
  | str (s : Str) : ClD K M (.str s) (.type "str")
  | tup (ds : List D) : ClD K M (.tup ds) (.type "tuple")
  | lst (ds : List D) : ClD K M (.lst ds) (.type "list")
  | mlst {a : Addr} {ds : List D} (h : M a = some (.lst ds)) : ClD K M (.obj a) (.type "list")
  | ins {d : D} {C : Addr} {fs : List (Str × D)} (h : InsD M d C fs) (i : Isi K C) : ClD K M d (.ref C)
theorem kit_D {pins : List (Addr × Obj)} {σ : L2.St} {H : Hp} {s : Shared} {v : V} {u t : Value} (I : Inv X pins σ H s) (hM : Has X.K H M) (z : Dz X.K H v d) (rx : RelV v u) (c : ClD X.K M d t) : ∃ P : Heap → Prop, PySem.W.KitX X.K u t P ∧ P s.heap ∧ u ≠ .builtin "__main__.__loader__#opaque" := by
  cases c with
  | non => cases z; exact kit_of I rx (.base .non)
  | bl b => cases z; exact kit_of I rx (.base (.bl b))
  | int i => cases z; exact kit_of I rx (.base (.int i))
  | str s => cases z; exact kit_of I rx (.base (.str s))
  | tup ds =>
    cases z with
    | tup hq za =>
      rcases hq with (h | ⟨o, h⟩) | ⟨o, its, n, h, hc, _⟩
      · exact kit_of I rx (.base (.tup h))
      · exact kit_of I rx (.fTuple h)
      · exact kit_of I rx (.kTuple h hc)
  | lst ds =>
    cases z with
    | lst hq za =>
      obtain ⟨o, h⟩ := hq
      exact kit_of I rx (.base (.frz h))
  | mlst h =>
    cases z
    obtain ⟨xs, e, _⟩ := hM _ _ h
    exact kit_of I rx (.base (.lst e))
  | ins hi i =>
    obtain ⟨a, dx, vs, rfl, rd, t⟩ := hi.rd hM z
    obtain rfl : u = Value.ref a := rx
    obtain ⟨mA, O, _⟩ := ins_getR I.hok rd
    obtain ⟨od, J, _⟩ := O.look
    exact ⟨_, PySem.W.kitx_own (i.cl.get _) i.cl.hd i.ha i.hn i.htk i.hm, J, fun z => nomatch z⟩
/-- isinstance(x, c) -/
theorem e_isi {c : D} {t u : Value} {q : Bool} (hc : (∃ n, c = .ty n ∧ u = .type n) ∨ ∃ C, c = .obj C ∧ u = .ref C) (ht : ClD X.K M1 x t) (hk : PySem.W.kitOne X.K t u = some q) (hm : X.mg "isinstance" = none) (ha : EvA X Γ M [a, b] [x, c] M1)
    (hg : Gl X "isinstance" := by rfl) (he : starEach [a, b] X.env = (false, eval a X.env) :: starEach [b] X.env := by rfl) (hpl : (backTo pos (starEach [b] X.env)).any (·.1) = false := by rfl) : Ev X Γ M (.Call (.Name "isinstance" p) [a, b] [] pos) (.bl q) M1 := by
  have hR : CallR X (.builtin "isinstance") (fun vs H Q => ∃ v w, vs = [v, w] ∧ Dz X.K H v x ∧ Has X.K H M1 ∧ ClsV w u ∧ Q (.bl q) H) := by
    intro pins s σ H xs us Q I r h
    obtain ⟨v, w, rfl, z, hM, k, qq⟩ := h
    obtain ⟨u1, u2, rfl, r1, r2⟩ := vals2 r
    have e2 := k.eq r2
    subst e2
    obtain ⟨P, Z, p, hx⟩ := kit_D I hM z r1 ht
    exact PySem.W.kia_one Z I.kIn p hk hx fun tk => ⟨.bl q, H, I.tok tk, rfl, qq⟩
  refine pe_imp (pe_callB hR hg hm (by decide +kernel) ha (by decide) (by decide) he hpl) fun σ H Q ⟨lo, hM, k⟩ => ⟨lo, hM, fun vs H1 s1 m1 z1 => ?_⟩
  cases z1 with
  | cons z1 z2 =>
    cases z2 with
    | cons z2 z3 =>
      cases z3
      refine ⟨_, _, rfl, z1, m1, ?_, k _ H1 s1 m1 (.bl _)⟩
      rcases hc with ⟨n, rfl, rfl⟩ | ⟨C, rfl, rfl⟩
      · cases z2
        exact .ty n
      · cases z2
        exact .own C
theorem dza_ty {K : PySem.W.Frag} {H : Hp} : ∀ {cs : List String} {xs : List V}, DzA K H xs (cs.map D.ty) → Paired ClsV xs (cs.map Value.type)
  | [], _, h => by cases h; exact .nil
  | c :: cs, _, h => by
    cases h with
    | cons a t =>
      cases a
      exact .cons (.ty c) (dza_ty t)
/-- isinstance(x, (c1, c2, ..)) of built-in classes -/
theorem e_isiT {cs : List String} {t : Value} {q : Bool} (ht : ClD X.K M1 x t) (hk : PySem.W.kitAny X.K t (cs.map Value.type) = some q) (hm : X.mg "isinstance" = none) (ha : EvA X Γ M [a, b] [x, .tup (cs.map D.ty)] M1)
    (hg : Gl X "isinstance" := by rfl) (he : starEach [a, b] X.env = (false, eval a X.env) :: starEach [b] X.env := by rfl) (hpl : (backTo pos (starEach [b] X.env)).any (·.1) = false := by rfl) : Ev X Γ M (.Call (.Name "isinstance" p) [a, b] [] pos) (.bl q) M1 := by
  have hR : CallR X (.builtin "isinstance") (fun vs H Q => ∃ v w, vs = [v, w] ∧ Dz X.K H v x ∧ Has X.K H M1 ∧ Dz X.K H w (.tup (cs.map D.ty)) ∧ Q (.bl q) H) := by
    intro pins s σ H xs us Q I r h
    obtain ⟨v, w, rfl, z, hM, zw, qq⟩ := h
    obtain ⟨u1, u2, rfl, r1, r2⟩ := vals2 r
    obtain ⟨P, Z, p, hx⟩ := kit_D I hM z r1 ht
    cases zw with
    | @tup tp ys _ hq za =>
      cases (show u2 = Value.ref tp from r2)
      obtain ⟨its, rv, ⟨o, h1, h2, n, h3⟩, _⟩ := I.tuple hq
      have e3 := ClsV.all (dza_ty za) rv
      subst e3
      obtain ⟨oc, od, dt, sl⟩ := o
      simp only at h2 h3
      subst h2 h3
      exact PySem.W.kia_tup Z I.kIn p h1 hk hx fun tk => ⟨.bl q, H, I.tok tk, rfl, qq⟩
  refine pe_imp (pe_callB hR hg hm (by decide +kernel) ha (by decide) (by decide) he hpl) fun σ H Q ⟨lo, hM, k⟩ => ⟨lo, hM, fun vs H1 s1 m1 z1 => ?_⟩
  cases z1 with
  | cons z1 z2 =>
    cases z2 with
    | cons z2 z3 =>
      cases z3
      exact ⟨_, _, rfl, z1, m1, z2, k _ H1 s1 m1 (.bl _)⟩
/-- a plain datum is one of a built-in class: what isinstance tells -/
def tyN : D → String
  | .non => "NoneType"
  | .bl _ => "bool"
  | .int _ => "int"
  | .str _ => "str"
  | .tup _ => "tuple"
  | .lst _ => "list"
  | _ => ""
/-- plain at its top -/
def plainT : D → Bool
  | .non | .bl _ | .int _ | .str _ | .tup _ | .lst _ => true
  | _ => false
theorem clD_plain {K : PySem.W.Frag} (h : plainT x = true) : ClD K M x (.type (tyN x)) := by
  cases x with
  | non => exact .non
  | bl b => exact .bl b
  | int i => exact .int i
  | str s => exact .str s
  | tup ds => exact .tup ds
  | lst ds => exact .lst ds
  | ty n => cases h
  | ins C fs => cases h
  | obj a => cases h
  | scr a => cases h
def isInt : D → Bool
  | .int _ | .bl _ => true
  | _ => false
def isBl : D → Bool
  | .bl _ => true
  | _ => false
def isStr : D → Bool
  | .str _ => true
  | _ => false
def isTup : D → Bool
  | .tup _ => true
  | _ => false
def isLst : D → Bool
  | .lst _ => true
  | _ => false
theorem kit_int {K : PySem.W.Frag} (h : plainT x = true) : PySem.W.kitOne K (.type (tyN x)) (.type "int") = some (isInt x) := by
  cases x with
  | non => exact kit_ty (show kitB "NoneType" "int" = some false by decide +kernel)
  | bl _ => exact kit_ty (show kitB "bool" "int" = some true by decide +kernel)
  | int _ => exact kit_ty (show kitB "int" "int" = some true by decide +kernel)
  | str _ => exact kit_ty (show kitB "str" "int" = some false by decide +kernel)
  | tup _ => exact kit_ty (show kitB "tuple" "int" = some false by decide +kernel)
  | lst _ => exact kit_ty (show kitB "list" "int" = some false by decide +kernel)
  | ty _ => cases h
  | ins _ _ => cases h
  | obj _ => cases h
  | scr _ => cases h
theorem kit_bool {K : PySem.W.Frag} (h : plainT x = true) : PySem.W.kitOne K (.type (tyN x)) (.type "bool") = some (isBl x) := by
  cases x with
  | non => exact kit_ty (show kitB "NoneType" "bool" = some false by decide +kernel)
  | bl _ => exact kit_ty (show kitB "bool" "bool" = some true by decide +kernel)
  | int _ => exact kit_ty (show kitB "int" "bool" = some false by decide +kernel)
  | str _ => exact kit_ty (show kitB "str" "bool" = some false by decide +kernel)
  | tup _ => exact kit_ty (show kitB "tuple" "bool" = some false by decide +kernel)
  | lst _ => exact kit_ty (show kitB "list" "bool" = some false by decide +kernel)
  | ty _ => cases h
  | ins _ _ => cases h
  | obj _ => cases h
  | scr _ => cases h
theorem kit_str {K : PySem.W.Frag} (h : plainT x = true) : PySem.W.kitOne K (.type (tyN x)) (.type "str") = some (isStr x) := by
  cases x with
  | non => exact kit_ty (show kitB "NoneType" "str" = some false by decide +kernel)
  | bl _ => exact kit_ty (show kitB "bool" "str" = some false by decide +kernel)
  | int _ => exact kit_ty (show kitB "int" "str" = some false by decide +kernel)
  | str _ => exact kit_ty (show kitB "str" "str" = some true by decide +kernel)
  | tup _ => exact kit_ty (show kitB "tuple" "str" = some false by decide +kernel)
  | lst _ => exact kit_ty (show kitB "list" "str" = some false by decide +kernel)
  | ty _ => cases h
  | ins _ _ => cases h
  | obj _ => cases h
  | scr _ => cases h
theorem kit_tup {K : PySem.W.Frag} (h : plainT x = true) : PySem.W.kitOne K (.type (tyN x)) (.type "tuple") = some (isTup x) := by
  cases x with
  | non => exact kit_ty (show kitB "NoneType" "tuple" = some false by decide +kernel)
  | bl _ => exact kit_ty (show kitB "bool" "tuple" = some false by decide +kernel)
  | int _ => exact kit_ty (show kitB "int" "tuple" = some false by decide +kernel)
  | str _ => exact kit_ty (show kitB "str" "tuple" = some false by decide +kernel)
  | tup _ => exact kit_ty (show kitB "tuple" "tuple" = some true by decide +kernel)
  | lst _ => exact kit_ty (show kitB "list" "tuple" = some false by decide +kernel)
  | ty _ => cases h
  | ins _ _ => cases h
  | obj _ => cases h
  | scr _ => cases h
theorem kit_lst {K : PySem.W.Frag} (h : plainT x = true) : PySem.W.kitOne K (.type (tyN x)) (.type "list") = some (isLst x) := by
  cases x with
  | non => exact kit_ty (show kitB "NoneType" "list" = some false by decide +kernel)
  | bl _ => exact kit_ty (show kitB "bool" "list" = some false by decide +kernel)
  | int _ => exact kit_ty (show kitB "int" "list" = some false by decide +kernel)
  | str _ => exact kit_ty (show kitB "str" "list" = some false by decide +kernel)
  | tup _ => exact kit_ty (show kitB "tuple" "list" = some false by decide +kernel)
  | lst _ => exact kit_ty (show kitB "list" "list" = some true by decide +kernel)
  | ty _ => cases h
  | ins _ _ => cases h
  | obj _ => cases h
  | scr _ => cases h
theorem kit_lt {K : PySem.W.Frag} (h : plainT x = true) : PySem.W.kitAny K (.type (tyN x)) (["list", "tuple"].map Value.type) = some (isLst x || isTup x) := by
  refine kitAny_cons (kit_lst h) (fun h1 => ?_) (fun h1 => by rw [h1]; rfl)
  refine kitAny_cons (kit_tup h) (fun h2 => ?_) (fun h2 => by rw [h2, Bool.or_true])
  rw [h1, h2]
  rfl
end
/-! ### == of data -/
mutual
def py : D → PyData
  | .non => .none
  | .bl b => .bool b
  | .int i => .int i
  | .str s => .str s
  | .tup ds => .tuple (pyA ds)
  | .lst ds => .list (pyA ds)
  | .ty _ => .none
  | .ins _ _ => .none
  | .obj _ => .none
  | .scr _ => .none
def pyA : List D → List PyData
  | [] => []
  | d :: ds => py d :: pyA ds
end
mutual
/-- plain data of at most so many levels, its texts in order -/
def okD : Nat → D → Bool
  | _, .non => true
  | _, .bl _ => true
  | _, .int _ => true
  | _, .str s => PyData.strOk s
  | n + 1, .tup ds => okA n ds
  | n + 1, .lst ds => okA n ds
  | _, _ => false
def okA : Nat → List D → Bool
  | _, [] => true
  | n, d :: ds => okD n d && okA n ds
end
mutual
theorem okD_py : ∀ (n : Nat) (d : D), okD n d = true → (py d).canLay0 = true ∧ (py d).depth ≤ n
  | n, .non, _ => by simp [py, PyData.canLay0, PyData.depth]
  | n, .bl _, _ => by simp [py, PyData.canLay0, PyData.depth]
  | n, .int _, _ => by simp [py, PyData.canLay0, PyData.depth]
  | n, .str s, h => by
    have h' : PyData.strOk s = true := by
      cases n <;> exact h
    simp [py, PyData.canLay0, PyData.depth, h']
  | 0, .tup ds, h => by cases h
  | 0, .lst ds, h => by cases h
  | n + 1, .tup ds, h => by
    obtain ⟨h1, h2⟩ := okA_py n ds h
    simp only [py, PyData.canLay0, PyData.depth]
    exact ⟨h1, by omega⟩
  | n + 1, .lst ds, h => by
    obtain ⟨h1, h2⟩ := okA_py n ds h
    simp only [py, PyData.canLay0, PyData.depth]
    exact ⟨h1, by omega⟩
  | 0, .ty _, h => by cases h
  | 0, .ins _ _, h => by cases h
  | 0, .obj _, h => by cases h
  | 0, .scr _, h => by cases h
  | n + 1, .ty _, h => by cases h
  | n + 1, .ins _ _, h => by cases h
  | n + 1, .obj _, h => by cases h
  | n + 1, .scr _, h => by cases h
theorem okA_py : ∀ (n : Nat) (ds : List D), okA n ds = true → PyData.canLayAll0 (pyA ds) = true ∧ PyData.depthAll (pyA ds) ≤ n
  | n, [], _ => by simp [pyA, PyData.canLayAll0, PyData.depthAll]
  | n, d :: ds, h => by
    obtain ⟨h1, h2⟩ := Bool.and_eq_true_iff.mp (show (okD n d && okA n ds) = true from by cases n <;> exact h)
    obtain ⟨a1, a2⟩ := okD_py n d h1
    obtain ⟨b1, b2⟩ := okA_py n ds h2
    simp only [pyA, PyData.canLayAll0, PyData.depthAll, a1, b1, Bool.and_self, true_and]
    omega
end
theorem okD_shaped {n : Nat} {d : D} (h : okD n d = true) (hn : n ≤ 60) : SeqAt.shaped (py d) = true := by
  obtain ⟨h1, h2⟩ := okD_py n d h
  unfold SeqAt.shaped
  rw [h1, decide_eq_true (by omega)]
  rfl
mutual
theorem dz_dp {K : PySem.W.Frag} {H : Hp} : ∀ (n : Nat) (d : D) (v : V), okD n d = true → Dz K H v d → Dp K H v (py d)
  | n, .non, _, _, z => by cases z; simp only [py]; exact .non
  | n, .bl _, _, _, z => by cases z; simp only [py]; exact .bl _
  | n, .int _, _, _, z => by cases z; simp only [py]; exact .int _
  | n, .str s, _, _, z => by cases z; simp only [py]; exact .str _
  | 0, .tup ds, _, h, _ => by cases h
  | 0, .lst ds, _, h, _ => by cases h
  | n + 1, .tup ds, v, h, z => by
    cases z with
    | tup hq za =>
      simp only [py]
      exact .tup hq (dza_dp n ds _ h za)
  | n + 1, .lst ds, v, h, z => by
    cases z with
    | lst hq za =>
      simp only [py]
      exact .lst hq.sq (dza_dp n ds _ h za)
  | 0, .ty _, _, h, _ => by cases h
  | 0, .ins _ _, _, h, _ => by cases h
  | 0, .obj _, _, h, _ => by cases h
  | 0, .scr _, _, h, _ => by cases h
  | n + 1, .ty _, _, h, _ => by cases h
  | n + 1, .ins _ _, _, h, _ => by cases h
  | n + 1, .obj _, _, h, _ => by cases h
  | n + 1, .scr _, _, h, _ => by cases h
theorem dza_dp {K : PySem.W.Frag} {H : Hp} : ∀ (n : Nat) (ds : List D) (vs : List V), okA n ds = true → DzA K H vs ds → DpAll K H vs (pyA ds)
  | n, [], _, _, z => by cases z; simp only [pyA]; exact .nil
  | n, d :: ds, _, h, z => by
    obtain ⟨h1, h2⟩ := Bool.and_eq_true_iff.mp (show (okD n d && okA n ds) = true from by cases n <;> exact h)
    cases z with
    | cons a t =>
      simp only [pyA]
      exact .cons (dz_dp n d _ h1 a) (dza_dp n ds _ h2 t)
end
/-- a plain datum as it stands: frozen, or a list that may change, of plain things -/
inductive PlD (M : Mem) : D → D → Prop
  | same (d : D) : PlD M d d
  | mu {a : Addr} {ds : List D} (h : M a = some (.lst ds)) : PlD M (.obj a) (.lst ds)
theorem PlD.dp {K : PySem.W.Frag} {H : Hp} {M : Mem} {x d : D} {v : V} {n : Nat} (h : PlD M x d) (ok : okD n d = true) (hM : Has K H M) (z : Dz K H v x) : Dp K H v (py d) := by
  cases h with
  | same => exact dz_dp n _ _ ok z
  | @mu a ds q =>
    cases z
    obtain ⟨xs, e, t⟩ := hM _ _ q
    cases n with
    | zero => cases ok
    | succ n =>
      simp only [py]
      exact .lst (SqL.of e) (dza_dp n ds _ ok t)
section
variable {X : Cx} {Γ : Gm} {M M1 M2 M3 : Mem} {a b e o : Expr} {es : List Expr} {x y z d d2 : D} {ds dd zs : List D} {pos apos p pos' : Pos} {k i j : Nat} {n m : Str}
theorem e_eqD (hu : X.A.units + 64 < cLine) (hx : PlD M2 x d) (hy : PlD M2 y d2) (h1 : okD i d = true) (h2 : okD j d2 = true) (ha : Ev X Γ M a x M1) (hb : Ev X Γ M1 b y M2) (hi : i ≤ 60 := by decide) (hj : j ≤ 60 := by decide) (hn : behindInMarks .Eq b = false := by first | exact nobehind _ (by decide) (by decide) | rfl) :
    Ev X Γ M (.Compare a [.Eq] [b] pos) (.bl (PyData.eqv (py d) (py d2))) M2 :=
  pe_imp (pe_cmpR (op_eqD hu) ha hb hn) fun σ H Q ⟨lo, hm, q⟩ => ⟨lo, hm, fun va H1 s1 m1 z1 => ⟨lo.mono s1, m1, fun vb H2 s2 m2 z2 => ⟨_, _, hx.dp h1 m2 (z1.mono s2), hy.dp h2 m2 z2, okD_shaped h1 hi, okD_shaped h2 hj, q _ H2 (s1.trans s2) m2 (.bl _)⟩⟩⟩
theorem e_neD (hu : X.A.units + 64 < cLine) (hx : PlD M2 x d) (hy : PlD M2 y d2) (h1 : okD i d = true) (h2 : okD j d2 = true) (ha : Ev X Γ M a x M1) (hb : Ev X Γ M1 b y M2) (hi : i ≤ 60 := by decide) (hj : j ≤ 60 := by decide) (hn : behindInMarks .NotEq b = false := by first | exact nobehind _ (by decide) (by decide) | rfl) :
    Ev X Γ M (.Compare a [.NotEq] [b] pos) (.bl (!PyData.eqv (py d) (py d2))) M2 :=
  pe_imp (pe_cmpR (op_neD hu) ha hb hn) fun σ H Q ⟨lo, hm, q⟩ => ⟨lo, hm, fun va H1 s1 m1 z1 => ⟨lo.mono s1, m1, fun vb H2 s2 m2 z2 => ⟨_, _, hx.dp h1 m2 (z1.mono s2), hy.dp h2 m2 z2, okD_shaped h1 hi, okD_shaped h2 hj, q _ H2 (s1.trans s2) m2 (.bl _)⟩⟩⟩
/-! ### in -/
theorem inV_strs (s : Str) (ss : List Str) : inV (.str s) (ss.map V.str) = decide (s ∈ ss) := by
  unfold inV
  induction ss with
  | nil => rfl
  | cons t r ih =>
    simp only [List.map_cons, List.any_cons, ih, List.mem_cons]
    have e : eqV (.str t) (.str s) = decide (t = s) := by
      first
        | rfl
        | simp [eqV]
    rw [e]
    by_cases h : s = t
    · subst h
      simp
    · have h3 : ¬ t = s := fun z => h z.symm
      simp [h, h3]
theorem flat_strs (ss : List Str) : (ss.map V.str).all flatV = true := by
  induction ss with
  | nil => rfl
  | cons t r ih => simp [ih, flatV]
theorem e_inSs {s : Str} {ss : List Str} (hx : LstD M2 y (ss.map .str)) (ha : Ev X Γ M a (.str s) M1) (hb : Ev X Γ M1 b y M2) (hn : behindInMarks .In b = false := by first | exact nomark _ | rfl) : Ev X Γ M (.Compare a [.In] [b] pos) (.bl (decide (s ∈ ss))) M2 :=
  pe_imp (pe_cmpR op_in_seq ha hb hn) fun σ H Q ⟨lo, hm, q⟩ => ⟨lo, hm, fun va H1 s1 m1 z1 => ⟨lo.mono s1, m1, fun vb H2 s2 m2 z2 => by
    cases z1
    obtain ⟨l, xs, rfl, hq, za⟩ := hx.rd m2 z2
    have e := za.strs
    subst e
    refine ⟨l, _, rfl, .inl (rdSqL hq), rfl, flat_strs ss, ?_⟩
    rw [inV_strs]
    exact q _ H2 (s1.trans s2) m2 (.bl _)⟩⟩
theorem e_ninSs {s : Str} {ss : List Str} (hx : LstD M2 y (ss.map .str)) (ha : Ev X Γ M a (.str s) M1) (hb : Ev X Γ M1 b y M2) (hn : behindInMarks .NotIn b = false := by first | exact nomark _ | rfl) : Ev X Γ M (.Compare a [.NotIn] [b] pos) (.bl (!decide (s ∈ ss))) M2 :=
  pe_imp (pe_cmpR op_notIn_seq ha hb hn) fun σ H Q ⟨lo, hm, q⟩ => ⟨lo, hm, fun va H1 s1 m1 z1 => ⟨lo.mono s1, m1, fun vb H2 s2 m2 z2 => by
    cases z1
    obtain ⟨l, xs, rfl, hq, za⟩ := hx.rd m2 z2
    have e := za.strs
    subst e
    refine ⟨l, _, rfl, .inl (rdSqL hq), rfl, flat_strs ss, ?_⟩
    rw [inV_strs]
    exact q _ H2 (s1.trans s2) m2 (.bl _)⟩⟩
/-- x in a tuple of ints, x an int -/
theorem inV_ints (s : Int) (ss : List Int) : inV (.int s) (ss.map V.int) = decide (s ∈ ss) := by
  unfold inV
  induction ss with
  | nil => rfl
  | cons t r ih =>
    simp only [List.map_cons, List.any_cons, ih, List.mem_cons]
    have e : eqV (.int t) (.int s) = decide (t = s) := by
      first
        | rfl
        | simp [eqV]
    rw [e]
    by_cases h : s = t
    · subst h
      simp
    · have h3 : ¬ t = s := fun z => h z.symm
      simp [h, h3]
theorem flat_ints (ss : List Int) : (ss.map V.int).all flatV = true := by
  induction ss with
  | nil => rfl
  | cons t r ih => simp [ih, flatV]
theorem e_ninTi {s : Int} {ss : List Int} (ha : Ev X Γ M a (.int s) M1) (hb : Ev X Γ M1 b (.tup (ss.map .int)) M2) (hn : behindInMarks .NotIn b = false := by first | exact nomark _ | rfl) : Ev X Γ M (.Compare a [.NotIn] [b] pos) (.bl (!decide (s ∈ ss))) M2 :=
  pe_imp (pe_cmpR op_notIn_seq ha hb hn) fun σ H Q ⟨lo, hm, q⟩ => ⟨lo, hm, fun va H1 s1 m1 z1 => ⟨lo.mono s1, m1, fun vb H2 s2 m2 z2 => by
    cases z1
    cases z2 with
    | @tup l xs _ hq za =>
      have e := za.ints
      subst e
      refine ⟨l, _, rfl, .inr hq, rfl, flat_ints ss, ?_⟩
      rw [inV_ints]
      exact q _ H2 (s1.trans s2) m2 (.bl _)⟩⟩
end
end PR

set_option Elab.async false
set_option linter.all false
set_option maxRecDepth 100000
set_option maxHeartbeats 4000000
/-! PR, part 8: walks over a text, split, join, index, while. -/
namespace PR
open PySem PySem.Spec PyProof.Rows L2
section
variable {X : Cx} {Γ : Gm} {M M1 M2 M3 : Mem} {a b e o : Expr} {es : List Expr} {x y z d d2 : D} {ds dd zs : List D} {pos apos p pos' : Pos} {k i j : Nat} {n m : Str} {R : En} {rest body : List Stmt}
/-- the signs of a text -/
def sgD (t : Str) : List D := t.cps.toList.map fun c => D.str ⟨#[c]⟩
theorem sgD_len (t : Str) : (sgD t).length = t.cps.size := by unfold sgD; simp
theorem sgD_at {t : Str} {i : Nat} (h : (sgD t)[i]? = some d) : ∃ c, t.cps[i]? = some c ∧ d = .str ⟨#[c]⟩ := by
  unfold sgD at h
  rw [List.getElem?_map] at h
  obtain ⟨c, e1, e2⟩ := Option.map_eq_some_iff.mp h
  exact ⟨c, by simpa using e1, e2.symm⟩
theorem k_str {tg : Expr} {t : Str} (h : Ev X Γ M e (.str t) M1) : Wk X tg Γ M e (sgD t) M1 := pi_imp (pi_str h) fun σ H R ⟨lo, hm, q⟩ => ⟨lo, hm, fun v H1 s1 m1 z1 => by
  cases z1
  refine ⟨t, rfl, q _ H1 s1 m1 (fun i H' s2 hi => ?_) (fun i H' s2 hi => ?_) (fun i H' x H'' s2 y d hd => ?_)⟩
  · rw [sgD_len] at hi
    exact hi
  · rw [sgD_len] at hi
    exact hi
  · obtain ⟨e1, c, hc, rfl⟩ := y
    subst e1
    obtain ⟨c', hc', rfl⟩ := sgD_at hd
    rw [hc] at hc'
    cases hc'
    exact ⟨Sx.refl _, .str _, fun N hN => hN⟩⟩
/-- a.split(b) -/
theorem n_split {t u : Str} (hu : (u.length == 0) = false) (hz : t.length + 2 ≤ sizeLine) (ho : Ev X Γ M o (.str t) M1) (he : Ev X Γ M1 e (.str u) M2)
    (hs : starEach [e] X.env = [(false, eval e X.env)] := by rfl) (hbase : attributeBase o "split" X.env (eval o X.env) = eval o X.env := by rfl) (hline : (apos.endLine == pos.line) = true := by rfl) :
    EvN X Γ M (.Call (.Attribute o "split" apos) [e] [] pos) ((Txt.split t u).map .str) M2 :=
  pe_imp (pe_m1 PySem.F.slot_str_split PySem.F.type_str_split mt_split ho he hs hbase hline) fun σ H Q ⟨lo, hm, q⟩ => ⟨lo, hm, fun v H1 s1 m1 z1 => by
    cases z1
    refine ⟨⟨t, rfl⟩, lo.mono s1, m1, fun v2 H2 s2 m2 z2 => ?_⟩
    cases z2
    refine ⟨t, u, rfl, rfl, hu, hz, fun p hp => ?_⟩
    have s3 : Sx H2 (upd H2 p (.lst ((Txt.split t u).map V.str))) := Sx.new hp
    exact q p _ _ ((s1.trans s2).trans s3) (m2.new hp) (m2.none hp) upd_same (DzA.of_strs _)⟩
/-- a.join(list of texts) -/
theorem e_join {t : Str} {ys : List Str} (hx : LstD M2 x (ys.map .str)) (hz : (ys.map (·.length)).sum + ys.length * t.length ≤ 16777216) (ho : Ev X Γ M o (.str t) M1) (he : Ev X Γ M1 e x M2)
    (hs : starEach [e] X.env = [(false, eval e X.env)] := by rfl) (hbase : attributeBase o "join" X.env (eval o X.env) = eval o X.env := by rfl) (hline : (apos.endLine == pos.line) = true := by rfl) :
    Ev X Γ M (.Call (.Attribute o "join" apos) [e] [] pos) (.str (Txt.join t ys)) M2 :=
  pe_imp (pe_m1 PySem.F.slot_str_join PySem.F.type_str_join mt_join ho he hs hbase hline) fun σ H Q ⟨lo, hm, q⟩ => ⟨lo, hm, fun v H1 s1 m1 z1 => by
    cases z1
    refine ⟨⟨t, rfl⟩, lo.mono s1, m1, fun v2 H2 s2 m2 z2 => ?_⟩
    obtain ⟨l, xs, rfl, hq, za⟩ := hx.rd m2 z2
    have e1 := za.strs
    subst e1
    exact ⟨t, l, ys, rfl, rfl, .inl (rdSqL hq), hz, q _ H2 (s1.trans s2) m2 (.str _)⟩⟩
theorem flat_str (s : Str) : flatV (.str s) = true := rfl
theorem eqV_strs (s t : Str) : eqV (.str t) (.str s) = decide (t = s) := by
  first
    | rfl
    | simp [eqV]
/-- list.index(text) -/
theorem e_indexL {s : Str} {ss : List Str} {jj : Nat} (hx : LstD M2 x (ss.map .str)) (hj : ss[jj]? = some s) (hno : ∀ m, m < jj → ss[m]? ≠ some s) (ho : Ev X Γ M o x M1) (hx1 : LstD M1 x (ss.map .str)) (he : Ev X Γ M1 e (.str s) M2)
    (hpe : ∀ {to te : TE}, PE X o to → PE X e te → PE X (.Call (.Attribute o "index" apos) [e] [] pos) (tBM X.K "list" (rIndex X.K) to (tCons te tNil)) := by exact fun h1 h2 => pe_bm PySem.F.plainAttrs_list PySem.F.slot_list_index PySem.F.type_list_index mt_index h1 (pa_cons h2 pa_nil)) :
    Ev X Γ M (.Call (.Attribute o "index" apos) [e] [] pos) (.int (jj : Int)) M2 :=
  pe_imp (hpe ho he) fun σ H Q ⟨lo, hm, q⟩ => ⟨lo, hm, fun v H1 s1 m1 z1 => by
    obtain ⟨l0, xs0, e0, hq0, _⟩ := hx1.rd m1 z1
    subst e0
    refine ⟨.inl ⟨rfl, xs0, rdSqL hq0⟩, lo.mono s1, m1, fun v2 H2 s2 m2 z2 => ?_⟩
    cases z2
    obtain ⟨l, xs, e1, hq, za⟩ := hx.rd m2 (z1.mono s2)
    have e2 := za.strs
    subst e2
    refine ⟨l, ss.map V.str, .str s, jj, .str s, e1, rfl, rdSqL hq, rfl, flat_strs ss, by rw [List.getElem?_map, hj]; rfl, by rw [eqV_strs]; exact decide_eq_true rfl, fun m' z' hm' hz' => ?_, q _ H2 (s1.trans s2) m2 (.int _)⟩
    rw [List.getElem?_map] at hz'
    obtain ⟨t, ht, rfl⟩ := Option.map_eq_some_iff.mp hz'
    rw [eqV_strs]
    refine decide_eq_false fun ets => hno m' hm' ?_
    rw [ht, ets]⟩
/-- while c: W by what is left -/
theorem j_while {c : Expr} (W : Nat → Gm → Mem → Prop) (n0 : Nat) (h0 : W n0 Γ M) (hb : ∀ m Γ' M', W m Γ' M' → ∃ q M1, EvT X Γ' M' c q M1 ∧ (q = true → Jss X Γ' M1 body ⟨fun Γ2 M2 => ∃ m', m' < m ∧ W m' Γ2 M2, R.rt, fun Γ2 M2 => Jss X Γ2 M2 rest R, fun Γ2 M2 => ∃ m', m' < m ∧ W m' Γ2 M2⟩) ∧ (q = false → Jss X Γ' M1 rest R))
    (hp : PassesOwn (model X.prog X.w) X.A X.env X.xe := by exact PassesOwn.never) : Jss X Γ M (.While c body [] pos :: rest) R := by
  let B := fun (m : Nat) => (⟨fun Γ2 M2 => ∃ m', m' < m ∧ W m' Γ2 M2, R.rt, fun Γ2 M2 => Jss X Γ2 M2 rest R, fun Γ2 M2 => ∃ m', m' < m ∧ W m' Γ2 M2⟩ : En)
  have hcond : PT X c (fun σ H Q => ∃ q : { q : Gm × Mem × Bool × Mem // EvT X q.1 q.2.1 c q.2.2.1 q.2.2.2 }, tT X.K q.1.1 q.1.2.1 q.1.2.2.1 q.1.2.2.2 σ H Q) := ⟨fun pins s σ H Q I ⟨q, h⟩ => q.2.run pins s σ H Q I h⟩
  have hbody : PSs X body (fun E σ H => ∃ q : { q : Nat × Gm × Mem // Jss X q.2.1 q.2.2 body (B q.1) }, tJ X.K q.1.2.1 q.1.2.2 (B q.1.1) E σ H) := pss_ex fun q => q.2
  refine j_cons (ps_imp (ps_while hp hcond hbody) fun E σ H ⟨lo, hm, k⟩ => ?_)
  refine ⟨fun m σ' H' => Sx H H' ∧ ∃ Γ' M', Lo X.K H' σ' Γ' ∧ Has X.K H' M' ∧ W m Γ' M', ⟨n0, Sx.refl _, Γ, M, lo, hm, h0⟩, ?_⟩
  rintro m σ' H' ⟨s1, Γ', M', lo', m', w'⟩
  obtain ⟨q, M1, hq, ht, hf⟩ := hb m Γ' M' w'
  refine ⟨⟨(Γ', M', q, M1), hq⟩, lo', m', fun H1 s2 m1 => ?_⟩
  have s12 := s1.trans s2
  cases q with
  | true =>
    refine ite_t rfl ?_
    refine ⟨fun σ2 H2 => ∃ m', m' < m ∧ (Sx H H2 ∧ ∃ Γ' M', Lo X.K H2 σ2 Γ' ∧ Has X.K H2 M' ∧ W m' Γ' M'), fun σ2 H2 h => h, ⟨(m, Γ', M1), ht rfl⟩, lo'.mono s2, m1, ?_⟩
    exact ⟨fun σ4 H4 Γ4 M4 s4 lo4 m4 ⟨m5, h5, w5⟩ => ⟨m5, h5, s12.trans s4, Γ4, M4, lo4, m4, w5⟩, fun v H4 d4 M4 s4 m4 z4 r4 => k.rt v H4 d4 M4 (s12.trans s4) m4 z4 r4,
      fun σ4 H4 Γ4 M4 s4 lo4 m4 w4 => k.nx σ4 H4 Γ4 M4 (s12.trans s4) lo4 m4 w4, fun σ4 H4 Γ4 M4 s4 lo4 m4 ⟨m5, h5, w5⟩ => ⟨m5, h5, s12.trans s4, Γ4, M4, lo4, m4, w5⟩⟩
  | false =>
    refine ite_f Bool.false_ne_true ?_
    exact k.nx σ' H1 Γ' M1 s12 (lo'.mono s2) m1 (hf rfl)
end
section
variable {X : Cx} {Γ : Gm} {M M1 M2 M3 : Mem} {a b e o : Expr} {es : List Expr} {x y z d d2 : D} {ds dd zs : List D} {pos apos p pos' : Pos} {k i j : Nat} {n m : Str}
/-- the same comparisons as tests -/
theorem t_via {q : Bool} {t : TE} (h : PT X e (tTest t)) (k : ∀ σ H Q, tD X.K Γ M (.bl q) M2 σ H Q → t σ H Q) : EvT X Γ M e q M2 := pt_imp h fun σ H Q ⟨lo, hm, g⟩ => k σ H _ ⟨lo, hm, fun v H' s m z => by
  cases z
  exact ⟨_, rfl, g H' s m⟩⟩
theorem t_cmp {op : CmpOp} {r : R2} {q : Bool} (ho : OpR X (compareOp op) r) (hr : RvD X.K r x y (.bl q)) (ha : Ev X Γ M a x M1) (hb : Ev X Γ M1 b y M2) (hn : behindInMarks op b = false := by first | exact nobehind _ (by decide) (by decide) | rfl) : EvT X Γ M (.Compare a [op] [b] pos) q M2 :=
  t_via (pt_cmpR ho ha hb hn) fun σ H Q ⟨lo, hm, q⟩ => ⟨lo, hm, fun va H1 s1 m1 z1 => ⟨lo.mono s1, m1, fun vb H2 s2 m2 z2 => hr H2 M2 va vb (z1.mono s2) z2 m2 Q fun w H3 s3 m3 z3 => q w H3 ((s1.trans s2).trans s3) m3 z3⟩⟩
theorem t_lt {i j : Int} (ha : Ev X Γ M a (.int i) M1) (hb : Ev X Γ M1 b (.int j) M2) : EvT X Γ M (.Compare a [.Lt] [b] pos) (decide (i < j)) M2 := t_cmp op_lt (rv_I0 (h := fun i j => .bl (decide (i < j))) fun _ _ _ => .bl _) ha hb
theorem t_le {i j : Int} (ha : Ev X Γ M a (.int i) M1) (hb : Ev X Γ M1 b (.int j) M2) : EvT X Γ M (.Compare a [.LtE] [b] pos) (decide (i ≤ j)) M2 := t_cmp op_le (rv_I0 (h := fun i j => .bl (decide (i ≤ j))) fun _ _ _ => .bl _) ha hb
theorem t_gt {i j : Int} (ha : Ev X Γ M a (.int i) M1) (hb : Ev X Γ M1 b (.int j) M2) : EvT X Γ M (.Compare a [.Gt] [b] pos) (decide (j < i)) M2 := t_cmp op_gt (rv_I0 (h := fun i j => .bl (decide (j < i))) fun _ _ _ => .bl _) ha hb
theorem t_ge {i j : Int} (ha : Ev X Γ M a (.int i) M1) (hb : Ev X Γ M1 b (.int j) M2) : EvT X Γ M (.Compare a [.GtE] [b] pos) (decide (j ≤ i)) M2 := t_cmp op_ge (rv_I0 (h := fun i j => .bl (decide (j ≤ i))) fun _ _ _ => .bl _) ha hb
theorem t_eqI {i j : Int} (ha : Ev X Γ M a (.int i) M1) (hb : Ev X Γ M1 b (.int j) M2) : EvT X Γ M (.Compare a [.Eq] [b] pos) (decide (i = j)) M2 := t_cmp op_eq rv_eqI ha hb
theorem t_neI {i j : Int} (ha : Ev X Γ M a (.int i) M1) (hb : Ev X Γ M1 b (.int j) M2) : EvT X Γ M (.Compare a [.NotEq] [b] pos) (!decide (i = j)) M2 := t_cmp op_ne rv_neI ha hb
theorem t_eqS {s t : Str} (ha : Ev X Γ M a (.str s) M1) (hb : Ev X Γ M1 b (.str t) M2) : EvT X Γ M (.Compare a [.Eq] [b] pos) (decide (s = t)) M2 := t_cmp op_eq rv_eqS ha hb
theorem t_neS {s t : Str} (ha : Ev X Γ M a (.str s) M1) (hb : Ev X Γ M1 b (.str t) M2) : EvT X Γ M (.Compare a [.NotEq] [b] pos) (!decide (s = t)) M2 := t_cmp op_ne rv_neS ha hb
theorem t_isN (ha : Ev X Γ M a d M1) (hb : Ev X Γ M1 b .non M2) : EvT X Γ M (.Compare a [.Is] [b] pos) (isNon d) M2 := t_cmp op_isN (fun H M u v z1 z2 m Q q => by
  cases z2
  refine ⟨rfl, ?_⟩
  rw [isNon_v z1]
  exact q _ H (Sx.refl H) m (.bl _)) ha hb
theorem t_notN (ha : Ev X Γ M a d M1) (hb : Ev X Γ M1 b .non M2) : EvT X Γ M (.Compare a [.IsNot] [b] pos) (!isNon d) M2 := t_cmp op_notN (fun H M u v z1 z2 m Q q => by
  cases z2
  refine ⟨rfl, ?_⟩
  rw [isNon_v z1]
  exact q _ H (Sx.refl H) m (.bl _)) ha hb
theorem t_chain {i j : Int} {op op' : CmpOp} {p q : Int → Int → Bool} {c : Expr} {k : Int} (ho : OpR X (compareOp op) (rI0 fun i j => .bl (p i j))) (ho' : OpR X (compareOp op') (rI0 fun i j => .bl (q i j)))
    (ha : Ev X Γ M a (.int i) M1) (hb : Ev X Γ M1 b (.int j) M2) (hc : Ev X Γ M2 c (.int k) M2) (hm' : lastMarks [op, op'] [b, c] = false) : EvT X Γ M (.Compare a [op, op'] [b, c] pos) (p i j && q j k) M2 := by
  refine t_via (pt_chain ho ho' ha hb hc hm') fun σ H Q ⟨lo, hm, qq⟩ => ⟨lo, hm, fun va H1 s1 m1 z1 => ⟨lo.mono s1, m1, fun vb H2 s2 m2 z2 => ?_⟩⟩
  have z1' := z1.mono s2
  cases z1'
  cases z2
  refine ⟨i, j, rfl, rfl, _, rfl, ?_⟩
  cases hp : p i j with
  | true =>
    refine iteT ?_
    refine ⟨(lo.mono s1).mono s2, m2, fun vc H3 s3 m3 z3 => ?_⟩
    cases z3
    exact ⟨j, k, rfl, rfl, qq _ H3 ((s1.trans s2).trans s3) m3 (by rw [hp]; exact .bl _)⟩
  | false =>
    refine iteF ?_
    exact qq _ H2 (s1.trans s2) m2 (by rw [hp]; exact .bl _)
theorem t_chLL {i j : Int} {c : Expr} {k : Int} (ha : Ev X Γ M a (.int i) M1) (hb : Ev X Γ M1 b (.int j) M2) (hc : Ev X Γ M2 c (.int k) M2) (hm' : lastMarks [.LtE, .LtE] [b, c] = false := by rfl) : EvT X Γ M (.Compare a [.LtE, .LtE] [b, c] pos) (decide (i ≤ j) && decide (j ≤ k)) M2 := t_chain op_le op_le ha hb hc hm'
theorem t_chSL {i j : Int} {c : Expr} {k : Int} (ha : Ev X Γ M a (.int i) M1) (hb : Ev X Γ M1 b (.int j) M2) (hc : Ev X Γ M2 c (.int k) M2) (hm' : lastMarks [.Lt, .LtE] [b, c] = false := by rfl) : EvT X Γ M (.Compare a [.Lt, .LtE] [b, c] pos) (decide (i < j) && decide (j ≤ k)) M2 := t_chain op_lt op_le ha hb hc hm'
theorem t_chSS {i j : Int} {c : Expr} {k : Int} (ha : Ev X Γ M a (.int i) M1) (hb : Ev X Γ M1 b (.int j) M2) (hc : Ev X Γ M2 c (.int k) M2) (hm' : lastMarks [.Lt, .Lt] [b, c] = false := by rfl) : EvT X Γ M (.Compare a [.Lt, .Lt] [b, c] pos) (decide (i < j) && decide (j < k)) M2 := t_chain op_lt op_lt ha hb hc hm'
theorem t_chLS {i j : Int} {c : Expr} {k : Int} (ha : Ev X Γ M a (.int i) M1) (hb : Ev X Γ M1 b (.int j) M2) (hc : Ev X Γ M2 c (.int k) M2) (hm' : lastMarks [.LtE, .Lt] [b, c] = false := by rfl) : EvT X Γ M (.Compare a [.LtE, .Lt] [b, c] pos) (decide (i ≤ j) && decide (j < k)) M2 := t_chain op_le op_lt ha hb hc hm'
theorem t_inSg {c : Nat} {t : Str} (ha : Ev X Γ M a (.str ⟨#[c]⟩) M1) (hb : Ev X Γ M1 b (.str t) M2) (hn : behindInMarks .In b = false := by rfl) : EvT X Γ M (.Compare a [.In] [b] pos) (decide (c ∈ t.cps.toList)) M2 := t_cmp op_in_sign (fun H M u v z1 z2 m Q q => by
  cases z1
  cases z2
  exact ⟨c, t, rfl, rfl, q _ H (Sx.refl H) m (.bl _)⟩) ha hb hn
theorem t_ninSg {c : Nat} {t : Str} (ha : Ev X Γ M a (.str ⟨#[c]⟩) M1) (hb : Ev X Γ M1 b (.str t) M2) (hn : behindInMarks .NotIn b = false := by rfl) : EvT X Γ M (.Compare a [.NotIn] [b] pos) (!decide (c ∈ t.cps.toList)) M2 := t_cmp op_notIn_sign (fun H M u v z1 z2 m Q q => by
  cases z1
  cases z2
  exact ⟨c, t, rfl, rfl, q _ H (Sx.refl H) m (.bl _)⟩) ha hb hn
theorem t_eqD (hu : X.A.units + 64 < cLine) (hx : PlD M2 x d) (hy : PlD M2 y d2) (h1 : okD i d = true) (h2 : okD j d2 = true) (ha : Ev X Γ M a x M1) (hb : Ev X Γ M1 b y M2) (hi : i ≤ 60 := by decide) (hj : j ≤ 60 := by decide) (hn : behindInMarks .Eq b = false := by first | exact nobehind _ (by decide) (by decide) | rfl) :
    EvT X Γ M (.Compare a [.Eq] [b] pos) (PyData.eqv (py d) (py d2)) M2 :=
  t_via (pt_cmpR (op_eqD hu) ha hb hn) fun σ H Q ⟨lo, hm, q⟩ => ⟨lo, hm, fun va H1 s1 m1 z1 => ⟨lo.mono s1, m1, fun vb H2 s2 m2 z2 => ⟨_, _, hx.dp h1 m2 (z1.mono s2), hy.dp h2 m2 z2, okD_shaped h1 hi, okD_shaped h2 hj, q _ H2 (s1.trans s2) m2 (.bl _)⟩⟩⟩
theorem t_neD (hu : X.A.units + 64 < cLine) (hx : PlD M2 x d) (hy : PlD M2 y d2) (h1 : okD i d = true) (h2 : okD j d2 = true) (ha : Ev X Γ M a x M1) (hb : Ev X Γ M1 b y M2) (hi : i ≤ 60 := by decide) (hj : j ≤ 60 := by decide) (hn : behindInMarks .NotEq b = false := by first | exact nobehind _ (by decide) (by decide) | rfl) :
    EvT X Γ M (.Compare a [.NotEq] [b] pos) (!PyData.eqv (py d) (py d2)) M2 :=
  t_via (pt_cmpR (op_neD hu) ha hb hn) fun σ H Q ⟨lo, hm, q⟩ => ⟨lo, hm, fun va H1 s1 m1 z1 => ⟨lo.mono s1, m1, fun vb H2 s2 m2 z2 => ⟨_, _, hx.dp h1 m2 (z1.mono s2), hy.dp h2 m2 z2, okD_shaped h1 hi, okD_shaped h2 hj, q _ H2 (s1.trans s2) m2 (.bl _)⟩⟩⟩
theorem t_inSs {s : Str} {ss : List Str} (hx : LstD M2 y (ss.map .str)) (ha : Ev X Γ M a (.str s) M1) (hb : Ev X Γ M1 b y M2) (hn : behindInMarks .In b = false := by first | exact nomark _ | rfl) : EvT X Γ M (.Compare a [.In] [b] pos) (decide (s ∈ ss)) M2 :=
  t_via (pt_cmpR op_in_seq ha hb hn) fun σ H Q ⟨lo, hm, q⟩ => ⟨lo, hm, fun va H1 s1 m1 z1 => ⟨lo.mono s1, m1, fun vb H2 s2 m2 z2 => by
    cases z1
    obtain ⟨l, xs, rfl, hq, za⟩ := hx.rd m2 z2
    have e := za.strs
    subst e
    refine ⟨l, _, rfl, .inl (rdSqL hq), rfl, flat_strs ss, ?_⟩
    rw [inV_strs]
    exact q _ H2 (s1.trans s2) m2 (.bl _)⟩⟩
theorem t_ninSs {s : Str} {ss : List Str} (hx : LstD M2 y (ss.map .str)) (ha : Ev X Γ M a (.str s) M1) (hb : Ev X Γ M1 b y M2) (hn : behindInMarks .NotIn b = false := by first | exact nomark _ | rfl) : EvT X Γ M (.Compare a [.NotIn] [b] pos) (!decide (s ∈ ss)) M2 :=
  t_via (pt_cmpR op_notIn_seq ha hb hn) fun σ H Q ⟨lo, hm, q⟩ => ⟨lo, hm, fun va H1 s1 m1 z1 => ⟨lo.mono s1, m1, fun vb H2 s2 m2 z2 => by
    cases z1
    obtain ⟨l, xs, rfl, hq, za⟩ := hx.rd m2 z2
    have e := za.strs
    subst e
    refine ⟨l, _, rfl, .inl (rdSqL hq), rfl, flat_strs ss, ?_⟩
    rw [inV_strs]
    exact q _ H2 (s1.trans s2) m2 (.bl _)⟩⟩
theorem t_ninTi {s : Int} {ss : List Int} (ha : Ev X Γ M a (.int s) M1) (hb : Ev X Γ M1 b (.tup (ss.map .int)) M2) (hn : behindInMarks .NotIn b = false := by first | exact nomark _ | rfl) : EvT X Γ M (.Compare a [.NotIn] [b] pos) (!decide (s ∈ ss)) M2 :=
  t_via (pt_cmpR op_notIn_seq ha hb hn) fun σ H Q ⟨lo, hm, q⟩ => ⟨lo, hm, fun va H1 s1 m1 z1 => ⟨lo.mono s1, m1, fun vb H2 s2 m2 z2 => by
    cases z1
    cases z2 with
    | @tup l xs _ hq za =>
      have e := za.ints
      subst e
      refine ⟨l, _, rfl, .inr hq, rfl, flat_ints ss, ?_⟩
      rw [inV_ints]
      exact q _ H2 (s1.trans s2) m2 (.bl _)⟩⟩
end
section
variable {X : Cx} {Γ : Gm} {M M1 M2 M3 : Mem} {a b e o : Expr} {x y z d d2 : D} {pos : Pos} {R : En} {rest body : List Stmt}
/-- a, b = x, y -/
theorem j_par (i j : Nat) {nx ny : Str} {px py pt : Pos} {kt k2 pt2} (ha : EvA X Γ M [a, b] [d, d2] M1) (hk : Jss X ((Γ.set i (some d)).set j (some d2)) M1 rest R) (hij : i ≠ j := by decide) (hi : X.N[i]? = some nx := by rfl) (hj : X.N[j]? = some ny := by rfl) (hN : X.N.Nodup := by assumption) (hc : X.calm = true := by rfl)
    (hx : X.env.scope.names.lookup nx = some .local := by rfl) (hy : X.env.scope.names.lookup ny = some .local := by rfl)
    (hw : swappedStores [.Tuple [.Name nx px, .Name ny py] kt pt] (.Tuple [a, b] k2 pt2) X.env = pure (some [nx, ny]) := by rfl)
    (hs : swapsWithSole [.Tuple [.Name nx px, .Name ny py] kt pt] (.Tuple [a, b] k2 pt2) pos.line X.env = pure false := by rfl) : Jss X Γ M (.Assign [.Tuple [.Name nx px, .Name ny py] kt pt] (.Tuple [a, b] k2 pt2) pos :: rest) R :=
  j_step (ps_par hc hN hi hj hij hx hy ha hw hs) fun E σ H lo hm k => ⟨lo, hm, fun vs H1 s1 m1 z1 => by
    cases z1 with
    | cons z1 z2 =>
      cases z2 with
      | cons z2 z3 =>
        cases z3
        exact ⟨_, _, rfl, k _ _ _ _ s1 (((lo.mono s1).set z1).set z2) m1 hk⟩⟩
end
section
variable {X : Cx} {Γ : Gm} {M M1 M2 M3 : Mem} {a b e o : Expr} {x y z d d2 : D} {pos : Pos} {R : En} {rest body : List Stmt}
/-- -a -/
theorem e_neg {i : Int} (ha : Ev X Γ M a (.int i) M1) : Ev X Γ M (.UnaryOp .USub a pos) (.int (-i)) M1 :=
  pe_imp (pe_un un_neg ha) fun σ H Q ⟨lo, hm, q⟩ => ⟨lo, hm, fun v H1 s1 m1 z1 => by
    cases z1
    exact ⟨i, rfl, q _ H1 s1 m1 (.int _)⟩⟩
end
section
variable {X : Cx} {Γ : Gm} {M M1 M2 M3 : Mem} {a b e o elt tg it : Expr} {x y z d d2 : D} {ds : List D} {pos : Pos} {scope : Scope} {own : List (Str × Nat)} {js : List Nat} {f : Tg}
/-- an object that changes from turn to turn -/
theorem lcO {bx : Addr} (B : Nat → MO) (g : Nat → D) (hi : Wk X tg Γ M it ds M1) (hg : Bk X scope fun Y => Tgt Y tg js f) (hj : ∀ j ∈ js, j ∈ own.map (·.2)) (hB : M1 bx = some (B 0))
    (hf : ∀ (i : Nat) (x : D), ds[i]? = some x → ∃ Γ2, f x (wipeG Γ (own.map (·.2))) = some Γ2 ∧ ∀ N, Mem.Le (M1.put bx (B i)) N → Bk X scope fun Y => Ev Y Γ2 N elt (g i) (N.put bx (B (i + 1)))) (hz : ds.length ≤ 100000)
    (ok : BlkOk X.N X.env.scope scope own := by exact blkOk_by (by kernel_rfl)) (hN : X.N.Nodup := by assumption) (hc : X.calm = true := by rfl) (hs : ∀ x, foldedSetIterable it X.env x = pure x := by intro _; rfl) :
    LcOk X Γ M elt tg it [] scope own ((List.range ds.length).map g) (M1.put bx (B ds.length)) := by
  have hnone : ∀ i l, M1 l = none → (M1.put bx (B i)) l = none := fun i l h => by
    rw [put_ne (fun z => by rw [z, hB] at h; cases h)]
    exact h
  exact lc (X := X) (elt := elt) (ifs := []) (fun i => M1.put bx (B i)) (fun i => (List.range i).map g) hi hg hj (put_id hB) (by simp) hnone hz (fun i => by simp) (fun _ _ => true) (fun _ N => N) (fun i _ => g i) (fun i N => N.put bx (B (i + 1)))
    (fun i x hx => by
      obtain ⟨Γ2, h1, h2⟩ := hf i x hx
      refine ⟨Γ2, h1, fun N hN => ⟨fun _ _ _ _ _ => ts_nil, fun _ _ _ h => h, fun _ => ⟨h2 N hN, fun a o h q => ?_, le_upd hN, ?_⟩, fun h => by cases h⟩⟩
      · rw [put_ne (fun z => by rw [z, put_same] at h; cases h)]
        exact q
      · simp only [List.range_succ, List.map_append, List.map_cons, List.map_nil]) ok hN hc hs
theorem n_lcO {bx : Addr} (B : Nat → MO) (g : Nat → D) (hi : Wk X tg Γ M it ds M1) (hg : Bk X scope fun Y => Tgt Y tg js f) (hj : ∀ j ∈ js, j ∈ own.map (·.2)) (hB : M1 bx = some (B 0))
    (hf : ∀ (i : Nat) (x : D), ds[i]? = some x → ∃ Γ2, f x (wipeG Γ (own.map (·.2))) = some Γ2 ∧ ∀ N, Mem.Le (M1.put bx (B i)) N → Bk X scope fun Y => Ev Y Γ2 N elt (g i) (N.put bx (B (i + 1)))) (hz : ds.length ≤ 100000)
    (ok : BlkOk X.N X.env.scope scope own := by exact blkOk_by (by kernel_rfl)) (hN : X.N.Nodup := by assumption) (hc : X.calm = true := by rfl) (hs : ∀ x, foldedSetIterable it X.env x = pure x := by intro _; rfl) :
    EvN X Γ M (.ListComp elt [⟨tg, it, [], 0⟩] scope pos) ((List.range ds.length).map g) (M1.put bx (B ds.length)) := lc_n (lcO (B := B) (g := g) (hi := hi) (hg := hg) (hj := hj) (hB := hB) (hf := hf) (hz := hz) (ok := ok) (hN := hN) (hc := hc) (hs := hs))
end
section
variable {P : Program} {w : World} {K : PySem.W.Frag} {mg : Str → Option Value} {base : Heap} {f : Addr} {fd : FuncData} {ps : List Str} {k : Nat} {sp : SpD}
theorem cf_mk {C : Addr} {m : Str} (ok : FnOk P w K mg base CX0 k f fd ps (toSp K sp)) (hm : CFn K C m f) (hb : Binds K fd ps []) : Cf P w K mg base k C m ps [] sp := ⟨f, fd, ok, hm, [], [], hb, .nil, fun _ => .nil⟩
end
section
variable {X : Cx} {Γ : Gm} {M M1 M2 M3 : Mem} {a b e o : Expr} {x y z d d2 : D} {pos p : Pos} {R : En} {rest body : List Stmt}
theorem e_wk (h : Ev X Γ M e d M1) (hle : Mem.Le M2 M1) : Ev X Γ M e d M2 := pe_imp h fun σ H Q ⟨lo, hm, q⟩ => ⟨lo, hm, fun v H' s m z => q v H' s (m.le hle) z⟩
theorem le_new {l : Addr} {m : MO} (h : M l = none) : Mem.Le M (M.put l m) := (Mem.Le.refl M).put h
end
section
variable {X : Cx} {Γ : Gm} {M M1 M2 M3 : Mem} {a b e o : Expr} {x y z d d2 : D} {pos p : Pos}
/-- the script: its length, its cells -/
theorem e_lenScr {ns : List Int} (hm : X.mg "len" = none) (ha : EvA X Γ M [e] [.scr ns] M1) (hg : Gl X "len" := by rfl) (he : starEach [e] X.env = (false, eval e X.env) :: starEach [] X.env := by rfl) : Ev X Γ M (.Call (.Name "len" p) [e] [] pos) (.int ns.length) M1 :=
  pe_imp (pe_callB call_len_seq hg hm boot_len ha (by decide) (by decide) he) fun σ H Q ⟨lo, hM, q⟩ => ⟨lo, hM, fun vs H1 s1 m1 z1 => by
    cases z1 with
    | cons z1 z2 =>
      cases z2
      cases z1 with
      | scr h => exact ⟨_, _, rfl, .inl h.sq, by rw [List.length_map]; exact q _ H1 s1 m1 (.int _)⟩⟩
theorem e_ixScr {i v : Int} {ns : List Int} (hi : L2.atI ns i = some v) (ha : Ev X Γ M a (.scr ns) M1) (hb : Ev X Γ M1 b (.int i) M2) (hs : PlainIx b := by exact fun _ _ => rfl) : Ev X Γ M (.Subscript a b pos) (.int v) M2 :=
  pe_imp (pe_ix ix_list ha hb hs) fun σ H Q ⟨lo, hm, q⟩ => ⟨lo, hm, fun v1 H1 s1 m1 z1 => ⟨lo.mono s1, m1, fun u H2 s2 m2 z2 => by
    cases z2
    have z1 := z1.mono s2
    cases z1 with
    | scr h =>
      refine ⟨_, _, i, .int v, rfl, rfl, h.sq, ?_, q _ H2 (s1.trans s2) m2 (.int _)⟩
      unfold L2.atI at hi ⊢
      rw [List.length_map]
      obtain ⟨j, e1, e2⟩ := Option.bind_eq_some_iff.mp hi
      rw [e1]
      show (ns.map V.int)[j]? = some (.int v)
      rw [List.getElem?_map, e2]
      rfl⟩⟩
end
end PR

set_option Elab.async false
set_option linter.all false
set_option maxRecDepth 100000
set_option maxHeartbeats 4000000
/-! PR, part 9: ranges with bounds of any size. -/
namespace PR
open PySem PySem.Spec PyProof.Rows L2
theorem turn_long {P : Program} {w : World} {K : PySem.W.Frag} {tg : Expr} (it : Addr) (lo : Int) (n : Nat) : Turn P w K tg (Itr lo n) [it] it (fun i h => IsLongIter h it (lo + (i : Nat) * 1) ((n : Int) - (i : Nat)) 1) where
  mem := by simp
  obj := fun i h st b hb => by
    have e : b = it := by simpa using hb
    subst e
    exact ⟨_, st, fun v z => by
      have z' : Data.fields _ = Data.cell v := z
      cases z'⟩
  keep := fun i h h' st k => k it (by simp) _ st
  item := by
    intro X hP hw hK hc i pins s σ H E I hf st hg
    subst hP hw hK
    obtain ⟨f0, f1, f2, f3, f4, f5⟩ := hf it (by simp)
    have W := Walks.longrange (prog := X.prog) (w := X.w) (I.ok.hd hc) it lo 1 n
    refine W.item i s _ _ hg st fun v h' tk hv st' kk => ?_
    obtain ⟨t, rfl⟩ := hv
    have I1 : Inv X pins σ H { s with heap := h', toks := tk } := I.turned (fun b o hb e => kk b o (by simpa using hb) e) f0 f1 f3 f4 f5
    refine ⟨_, rfl, go_of (s := { s with heap := h', toks := tk }) (n := "longrange_iterator") st' rfl rfl (by decide) ⟨.int (lo + i), H, I1, ⟨t, ?_⟩, ⟨rfl, rfl⟩, st', fun b hb => (hf b hb).1⟩⟩
    rw [Int.mul_one]
  done := by
    intro X hP hw hK hc i pins s σ H E I hf st hg
    subst hP hw hK
    obtain ⟨f0, f1, f2, f3, f4, f5⟩ := hf it (by simp)
    exact wpAny_pyNext_long_end (I.ok.hd hc) st (by have : n ≤ i := hg; omega) fun h' eb => ⟨rfl, I.turned (t' := s.toks) (fun b o hb e => eb b o hb e) f0 f1 f3 f4 f5⟩
  self := fun _ _ _ _ _ st h => wpAny_pyIter_longiter st h
section
variable {X : Cx} {Γ : Gm} {M M1 : Mem} {a b : Expr} {pos p : Pos} {tg : Expr}
theorem range_itL {pins : List (Addr × Obj)} {σ : L2.St} {H : Hp} {s : Shared} {R : It → Hp → Prop} {E : Value → Shared → Prop} {lo hi : Int} {t u v : Tok} {tk : Nat} (I : Inv X pins σ H s) (hb : Builtin.Range.small lo hi 1 = false)
    (q : R (Itr lo (hi - lo).toNat) H) : wpAny (model X.prog X.w) X.A (pyIter (.ref s.heap.objs.size)) (PIE X pins σ tg R) E { s with heap := s.heap.push { cls := .type "range", data := .fields #[.int lo t, .int hi u, .int 1 v] }, toks := tk } := by
  refine wpAny_pyIter_longrange (IsRange.new ..) hb ?_
  have I1 : Inv X pins σ H { s with heap := s.heap.push { cls := .type "range", data := .fields #[.int lo t, .int hi u, .int 1 v] }, toks := tk } := I.kept fun b o e => Heap.get?_push_of_some _ e
  refine ⟨(s.heap.push { cls := .type "range", data := .fields #[.int lo t, .int hi u, .int 1 v] }).objs.size, [(s.heap.push { cls := .type "range", data := .fields #[.int lo t, .int hi u, .int 1 v] }).objs.size], _, _, H, rfl,
    I1.kept (t' := tk) fun b o e => Heap.get?_push_of_some _ e, turn_long _ lo (hi - lo).toNat, ?_, fun b hb => ?_, q⟩
  · have e1 : lo + ((0 : Nat) : Int) * 1 = lo := by simp
    have e2 : (((hi - lo).toNat : Nat) : Int) - ((0 : Nat) : Int) = Builtin.Range.rangeSize lo hi 1 := by rw [rangeSize_one]; split <;> omega
    show IsLongIter _ _ (lo + ((0 : Nat) : Int) * 1) ((((hi - lo).toNat : Nat) : Int) - ((0 : Nat) : Int)) 1
    rw [e1, e2]
    exact Heap.get?_push_size _ rfl
  · have e : b = (s.heap.push { cls := .type "range", data := .fields #[.int lo t, .int hi u, .int 1 v] }).objs.size := by simpa using hb
    subst e
    exact I1.fpOk (Nat.le_refl _) (I1.hok.fresh (Nat.le_refl _))
theorem range_itB {pins : List (Addr × Obj)} {σ : L2.St} {H : Hp} {s : Shared} {R : It → Hp → Prop} {E : Value → Shared → Prop} {lo hi : Int} {t u v : Tok} {tk : Nat} (I : Inv X pins σ H s) (hb : Builtin.Range.small lo hi 1 = true)
    (q : R (Itr lo (hi - lo).toNat) H) : wpAny (model X.prog X.w) X.A (pyIter (.ref s.heap.objs.size)) (PIE X pins σ tg R) E { s with heap := s.heap.push { cls := .type "range", data := .fields #[.int lo t, .int hi u, .int 1 v] }, toks := tk } := by
  refine wpAny_pyIter_range (IsRange.new ..) hb ?_
  have I1 : Inv X pins σ H { s with heap := s.heap.push { cls := .type "range", data := .fields #[.int lo t, .int hi u, .int 1 v] }, toks := tk } := I.kept fun b o e => Heap.get?_push_of_some _ e
  refine ⟨(s.heap.push { cls := .type "range", data := .fields #[.int lo t, .int hi u, .int 1 v] }).objs.size, [(s.heap.push { cls := .type "range", data := .fields #[.int lo t, .int hi u, .int 1 v] }).objs.size], _, _, H, rfl,
    I1.kept (t' := tk) fun b o e => Heap.get?_push_of_some _ e, turn_range _ lo (hi - lo).toNat, ?_, fun b hb => ?_, q⟩
  · have e1 : lo + ((0 : Nat) : Int) * 1 = lo := by simp
    have e2 : (((hi - lo).toNat : Nat) : Int) - ((0 : Nat) : Int) = Builtin.Range.rangeSize lo hi 1 := by rw [rangeSize_one]; split <;> omega
    show IsRangeIter _ _ (lo + ((0 : Nat) : Int) * 1) ((((hi - lo).toNat : Nat) : Int) - ((0 : Nat) : Int)) 1
    rw [e1, e2]
    exact Heap.get?_push_size _ rfl
  · have e : b = (s.heap.push { cls := .type "range", data := .fields #[.int lo t, .int hi u, .int 1 v] }).objs.size := by simpa using hb
    subst e
    exact I1.fpOk (Nat.le_refl _) (I1.hok.fresh (Nat.le_refl _))
def iRngA (ta : TA) : TI := fun σ H R => ta σ H fun vs H1 => ∃ i j : Int, vs = [.int i, .int j] ∧ R (Itr i (j - i).toNat) H1
theorem pi_rangeA {ta : TA} (hg : Gl X "range") (hm : X.mg "range" = none) (ha : PA X [a, b] ta) (hs : starEach [a, b] X.env = [(false, eval a X.env), (false, eval b X.env)] := by rfl) (hs2 : starEach [b] X.env = [(false, eval b X.env)] := by rfl) :
    PI X tg (.Call (.Name "range" p) [a, b] [] pos) (iRngA ta) := by
  refine ⟨fun pins s σ H R I h => ?_⟩
  refine Call_ (ld_blt I hg hm boot_range (PyProof.Rows.callWith_type1 (thn (ha.run pos pins s σ H _ I h) fun us s1 ⟨vs, H1, I1, r1, q1⟩ => ?_) (by rw [hs, hs2]) (by rw [hs2]; rfl)))
  obtain ⟨i, j, e, q⟩ := q1
  subst e
  cases r1 with
  | cons r rr =>
    cases rr with
    | cons r' rr =>
      cases rr
      obtain ⟨t, rfl⟩ := r
      obtain ⟨t', rfl⟩ := r'
      cases hb : Builtin.Range.small i j 1 with
      | true => exact call_range_2 (range_itB I1 hb q)
      | false => exact call_range_2 (range_itL I1 hb q)
/-- range(i, j) -/
theorem k_rg {i j : Int} (h : EvA X Γ M [a, b] [.int i, .int j] M1) (hj : j ≤ i ∨ (-(2 ^ 62) ≤ i ∧ i < 2 ^ 62 ∧ -(2 ^ 62) ≤ j ∧ j < 2 ^ 62)) (hm : X.mg "range" = none) (hg : Gl X "range" := by rfl) (hs : starEach [a, b] X.env = [(false, eval a X.env), (false, eval b X.env)] := by rfl) (hs2 : starEach [b] X.env = [(false, eval b X.env)] := by rfl) : Wk X tg Γ M (.Call (.Name "range" p) [a, b] [] pos) (rgD i (j - i).toNat) M1 :=
  pi_imp (pi_rangeA hg hm h hs hs2) fun σ H R ⟨lo, hM, q⟩ => ⟨lo, hM, fun vs H1 s1 m1 z1 => by
    cases z1 with
    | cons z1 z2 =>
      cases z1
      cases z2 with
      | cons z2 z3 =>
        cases z2
        cases z3
        refine ⟨i, j, rfl, q _ H1 s1 m1 (fun i H' s2 hi => by rw [rg_len] at hi; exact hi) (fun i H' s2 hi => by rw [rg_len] at hi; exact hi) fun i H' x H'' s2 y d hd => ?_⟩
        obtain ⟨e1, e2⟩ := y
        subst e1 e2
        obtain ⟨_, ed⟩ := rg_at hd
        subst ed
        exact ⟨Sx.refl _, .int _, fun N hN => hN⟩⟩
end
end PR

set_option Elab.async false
set_option linter.all false
set_option maxRecDepth 100000
set_option maxHeartbeats 4000000
/-! PR: comprehensions by places. -/
namespace PR
open PySem PySem.Spec PyProof.Rows L2
section
variable {X : Cx} {Γ : Gm} {M M1 M2 M3 : Mem} {a b e o elt tg it c : Expr} {x y z d d2 : D} {ds : List D} {pos : Pos} {scope : Scope} {own : List (Str × Nat)} {js : List Nat} {f : Tg}
/-- what comes of each turn, by its place -/
theorem lcI (g : Nat → D) (hi : Wk X tg Γ M it ds M1) (hg : Bk X scope fun Y => Tgt Y tg js f) (hj : ∀ j ∈ js, j ∈ own.map (·.2))
    (hf : ∀ (i : Nat) (x : D), ds[i]? = some x → ∃ Γ2, f x (wipeG Γ (own.map (·.2))) = some Γ2 ∧ ∀ N, Mem.Le M1 N → Bk X scope fun Y => Ev Y Γ2 N elt (g i) N) (hz : ds.length ≤ 100000)
    (ok : BlkOk X.N X.env.scope scope own := by exact blkOk_by (by kernel_rfl)) (hN : X.N.Nodup := by assumption) (hc : X.calm = true := by rfl) (hs : ∀ x, foldedSetIterable it X.env x = pure x := by intro _; rfl) :
    LcOk X Γ M elt tg it [] scope own ((List.range ds.length).map g) M1 :=
  lc (X := X) (elt := elt) (ifs := []) (fun _ => M1) (fun i => (List.range i).map g) hi hg hj rfl (by simp) (fun _ _ h => h) hz (fun i => by simp) (fun _ _ => true) (fun _ N => N) (fun i _ => g i) (fun _ N => N)
    (fun i x hx => by
      obtain ⟨Γ2, h1, h2⟩ := hf i x hx
      refine ⟨Γ2, h1, fun N hN => ⟨fun _ _ _ _ _ => ts_nil, fun _ _ _ h => h, fun _ => ⟨h2 N hN, fun _ _ _ h => h, hN, ?_⟩, fun h => by cases h⟩⟩
      simp only [List.range_succ, List.map_append, List.map_cons, List.map_nil]) ok hN hc hs
/-- those turns that are kept, by their places -/
theorem lcFI (t : Nat → Bool) (g : Nat → D) (hi : Wk X tg Γ M it ds M1) (hg : Bk X scope fun Y => Tgt Y tg js f) (hj : ∀ j ∈ js, j ∈ own.map (·.2))
    (hf : ∀ (i : Nat) (x : D), ds[i]? = some x → ∃ Γ2, f x (wipeG Γ (own.map (·.2))) = some Γ2 ∧ ∀ N, Mem.Le M1 N → (Bk X scope fun Y => EvT Y Γ2 N c (t i) N) ∧ (Bk X scope fun Y => Ev Y Γ2 N elt (g i) N)) (hz : ds.length ≤ 100000)
    (ok : BlkOk X.N X.env.scope scope own := by exact blkOk_by (by kernel_rfl)) (hN : X.N.Nodup := by assumption) (hc : X.calm = true := by rfl) (hs : ∀ x, foldedSetIterable it X.env x = pure x := by intro _; rfl) :
    LcOk X Γ M elt tg it [c] scope own (((List.range ds.length).filter t).map g) M1 :=
  lc (X := X) (elt := elt) (ifs := [c]) (fun _ => M1) (fun i => ((List.range i).filter t).map g) hi hg hj rfl (by simp) (fun _ _ h => h) hz (fun i => by
      rw [List.length_map]
      exact Nat.le_trans (List.length_filter_le _ _) (by simp)) (fun i _ => t i) (fun _ N => N) (fun i _ => g i) (fun _ N => N)
    (fun i x hx => by
      obtain ⟨Γ2, h1, h2⟩ := hf i x hx
      refine ⟨Γ2, h1, fun N hN => ?_⟩
      obtain ⟨h3, h4⟩ := h2 N hN
      refine ⟨fun s H C cl fp => ts_one (h3 s H C cl fp), fun _ _ _ h => h, fun ht => ⟨h4, fun _ _ _ h => h, hN, ?_⟩, fun ht => ⟨hN, ?_⟩⟩
      · rw [List.range_succ, List.filter_append]
        simp [ht]
      · rw [List.range_succ, List.filter_append]
        simp [ht]) ok hN hc hs
end
theorem eqv_emp (ds : List D) : PyData.eqv (py (.lst ds)) (py (.lst [])) = ds.isEmpty := by
  cases ds with
  | nil => simp [py, pyA, PyData.eqv, PyData.eqvAll]
  | cons a r => simp [py, pyA, PyData.eqv, PyData.eqvAll]
theorem okA_all {n : Nat} : ∀ {ds : List D}, (∀ d ∈ ds, okD n d = true) → okA n ds = true
  | [], _ => by cases n <;> rfl
  | d :: r, h => by
    have h1 := h d List.mem_cons_self
    have h2 := okA_all (n := n) (ds := r) fun x hx => h x (List.mem_cons_of_mem _ hx)
    cases n <;> exact Bool.and_eq_true_iff.mpr ⟨h1, h2⟩
end PR

set_option Elab.async false
set_option linter.all false
set_option maxRecDepth 100000
set_option maxHeartbeats 4000000
/-! PR: a tuple from its end, a range from its end. -/
namespace HT
open PySem PySem.Spec PyProof.Rows
section
variable {prog : Program} {w : World} {A : Around} {E : Value → Shared → Prop} {s : Shared}
theorem rev_applied {sl : Addr} {k : Tok} {n : Nat} {Q : Int × Int × Nat → Shared → Prop} (hs : s.heap.IsSliceOf sl .none .none (.int (-1) k)) (h : Q ((n : Int) - 1, -1, n) s) : wpAny (model prog w) A (Builtin.Slice.sliceApplied (.ref sl) (pure (n : Int))) Q E s := by
  obtain ⟨os, hos, hcs, hds⟩ := id hs
  unfold Builtin.Slice.sliceApplied Builtin.Slice.sliceFields
  apply wpAny_bind
  apply wpAny_bind
  apply wpAny_field hos hds (x := Value.none) rfl
  apply wpAny_bind
  apply wpAny_field hos hds (x := Value.none) rfl
  apply wpAny_bind
  apply wpAny_field hos hds (x := Value.int (-1) k) rfl
  apply wpAny_pure
  apply wpAny_bind
  apply slicePart_int
  show wpAny _ _ (if ((-1 : Int) == 0) = true then _ else _) _ _ s
  rw [if_neg (by decide)]
  apply wpAny_bind
  apply slicePart_none
  apply wpAny_bind
  apply slicePart_none
  apply wpAny_bind
  apply wpAny_pure
  have e1 : Builtin.Slice.sliceAdjust none none (-1) (n : Int) = ((n : Int) - 1, -1) := by
    unfold Builtin.Slice.sliceAdjust
    simp
  have e2 : Builtin.Slice.slicePlaces ((n : Int) - 1) (-1) (-1) = n := by
    unfold Builtin.Slice.slicePlaces
    rw [if_neg (by decide)]
    by_cases h0 : (n : Int) - 1 > -1
    · rw [if_pos h0]
      simp only [Int.neg_neg, Int.ediv_one]
      omega
    · rw [if_neg h0]
      show 0 = n
      omega
  show wpAny _ _ (match Builtin.Slice.sliceAdjust none none (-1) (n : Int) with | (lo, hi) => pure (lo, (-1 : Int), Builtin.Slice.slicePlaces lo hi (-1))) _ _ s
  rw [e1]
  show wpAny _ _ (pure ((n : Int) - 1, (-1 : Int), Builtin.Slice.slicePlaces ((n : Int) - 1) (-1) (-1))) _ _ s
  rw [e2]
  exact wpAny_pure h
theorem fm_congr {f g : Nat → Option Value} : ∀ {l : List Nat}, (∀ m ∈ l, f m = g m) → l.filterMap f = l.filterMap g
  | [], _ => rfl
  | a :: l, h => by
    rw [List.filterMap_cons, List.filterMap_cons, h a List.mem_cons_self, fm_congr fun m hm => h m (List.mem_cons_of_mem _ hm)]
theorem pick_rev (xs : Array Value) : ((List.range xs.size).filterMap fun (m : Nat) => xs[(((xs.size : Nat) : Int) - 1 + (m : Int) * (-1)).toNat]?) = xs.toList.reverse := by
  have e : ((List.range xs.size).filterMap fun (m : Nat) => xs[(((xs.size : Nat) : Int) - 1 + (m : Int) * (-1)).toNat]?) = ((List.range xs.size).filterMap fun m => xs.toList.reverse[m]?) := by
    refine fm_congr fun m hm => ?_
    have hm := List.mem_range.mp hm
    rw [List.getElem?_reverse (by simpa using hm)]
    have : (((xs.size : Nat) : Int) - 1 + (m : Int) * (-1)).toNat = xs.toList.length - 1 - m := by
      rw [Array.length_toList]
      omega
    rw [this, Array.getElem?_toList]
  rw [e]
  have key : ∀ (l : List Value), ((List.range l.length).filterMap fun m => l[m]?) = l := by
    intro l
    induction l with
    | nil => rfl
    | cons a r ih =>
      rw [List.length_cons, List.range_succ_eq_map, List.filterMap_cons, List.filterMap_map]
      show a :: (List.range r.length).filterMap (fun m => r[m]?) = a :: r
      rw [ih]
  have := key xs.toList.reverse
  rw [List.length_reverse, Array.length_toList] at this
  exact this
theorem getItem_tuple_rev {t sl : Addr} {items : Array Value} {k : Tok} {Q : Value → Shared → Prop} (ht : IsTup s.heap t items) (hs : s.heap.IsSliceOf sl .none .none (.int (-1) k))
    (h : Q (.ref s.heap.objs.size) { s with heap := s.heap.push { cls := .type "tuple", data := .seq items.toList.reverse.toArray } }) (hsz : items.size ≤ sizeLine) : wpAny (model prog w) A (getItem (.ref t) (.ref sl)) Q E s := by
  have hz : sizeOk (.seq items.toList.reverse.toArray) := by
    show items.toList.reverse.toArray.size ≤ sizeLine
    rw [List.size_toArray, List.length_reverse, Array.length_toList]
    exact hsz
  obtain ⟨os, hos, hcs, hds⟩ := id hs
  have hT : s.TypeIs (.ref sl) "slice" := ⟨os, hos, hcs⟩
  unfold getItem
  try with_reducible apply wpAny_holding
  first
    | (apply wpAny_bind
       apply wpAny_pure)
    | skip
  apply wpAny_bind
  refine wpAny_sequenceKey ht.typeIs (by decide) ?_
  apply wpAny_bind
  refine wpAny_callSpecial?_slot (name := Str.ofString "__getitem__") ht.typeIs PyProof.Rows.slot_tuple_getitem ?_
  refine wpAny_call_entry PyProof.Rows.slot_tuple_getitem ht.typeIs entry_tuple_getitem ?_ (args_tuple_getitem _ _)
  show wpAny _ _ (Builtin.Tuple.tupleItemsOf (.ref t) >>= _) _ _ s
  apply wpAny_bind
  apply tupleItemsOf_ ht
  apply wpAny_bind
  apply wpAny_typeOf hT
  rw [if_pos (by decide)]
  apply wpAny_bind
  apply rev_applied hs
  have hno : ¬ (((items.size : Int) - 1 == 0 && (-1 : Int) == 1 && items.size == items.size) = true) := by
    rw [show ((-1 : Int) == 1) = false from rfl, Bool.and_false, Bool.false_and]
    exact Bool.false_ne_true
  show wpAny _ _ (if ((items.size : Int) - 1 == 0 && (-1 : Int) == 1 && items.size == items.size) = true then _ else _) _ _ s
  rw [if_neg hno, pick_rev]
  first
    | exact wpAny_bind (m := Builtin.Tuple.tupleExact _) (wpAny_newObj_type (wpAny_pure ⟨_, rfl, wpAny_pure h⟩) hz)
    | exact wpAny_bind (m := Builtin.Tuple.tupleExact _) (wpAny_newObj_type (wpAny_bind (wpAny_pure (wpAny_pure ⟨_, rfl, wpAny_pure h⟩))) hz)
    | exact wpAny_bind (wpAny_bind (m := Builtin.Tuple.tupleExact _) (wpAny_newObj_type (wpAny_pure (wpAny_pure ⟨_, rfl, wpAny_pure h⟩)) hz))
    | exact wpAny_bind (wpAny_bind (m := Builtin.Tuple.tupleExact _) (wpAny_newObj_type (wpAny_pure ⟨_, rfl, wpAny_pure h⟩) hz))
end
end HT
namespace PR
open PySem PySem.Spec PyProof.Rows L2
def tRevT (K : PySem.W.Frag) (te : TE) : TE := fun σ H Q => te σ H fun x H1 => ∃ a xs, x = .ref a ∧ SqT K H1 a xs ∧ ∀ p, H1 p = none → Q (.ref p) (upd H1 p (.tup xs.reverse))
section
variable {X : Cx}
theorem pe_revT {e : Expr} {te : TE} {k : Nat} {p1 p2 p3 pos : Pos} (he : PE X e te) : PE X (.Subscript e (.Slice none none (some (.UnaryOp .USub (.Constant (.int 1) k p1) p2)) p3) pos) (tRevT X.K te) := by
  constructor
  intro pins s σ H Q I h
  apply Subscript_
  apply thn (he.run pins s σ H _ I h)
  rintro v s1 ⟨x, H1, I1, r1, a, xs, rfl, hx, q⟩
  cases r1
  have hst : PO X (some (.UnaryOp .USub (.Constant (.int 1) k p1) p2)) (tPart (tUn (rU fun i => .int (-i)) (tC (.int 1)))) := po_some (pe_un un_neg pe_int)
  apply wpAny_Slice
  rw [evalPart_none]
  apply wpAny_pure
  apply wpAny_pure
  apply thn (hst.run pins s1 σ H1 (fun o H4 => o = some (-1) ∧ H4 = H1) I1 ⟨1, rfl, -1, rfl, rfl, rfl⟩)
  rintro vs s4 ⟨o, H4, I4, ps, rfl, rfl⟩
  cases ps with
  | int i tk =>
    have I5 : Inv X pins σ H4 { s4 with heap := s4.heap.push { cls := .type "slice", data := .fields #[.none, .none, .int (-1) tk] } } := I4.kept (t' := s4.toks) fun b ob q => Heap.get?_push_of_some _ q
    obtain ⟨its, r, ht, hz⟩ := I5.tuple hx
    have hlen := r.length
    show wpAny (model X.prog X.w) X.A (subscriptTail e (.Slice none none (some (.UnaryOp .USub (.Constant (.int 1) k p1) p2)) p3) (.ref a) (.ref s4.heap.objs.size)) (EP X pins σ Q) X.xe { s4 with heap := s4.heap.push { cls := .type "slice", data := .fields #[.none, .none, .int (-1) tk] } }
    refine tail_any (ops := [.ref a, .ref s4.heap.objs.size]) ht.typeIs PyProof.Rows.slot_tuple_getitem.lookup ?_ (by with_unfolding_all rfl)
    refine HT.getItem_tuple_rev ht (Heap.IsSliceOf.new _ .none .none (.int (-1) tk)) ?_ (by rw [List.size_toArray]; omega)
    refine ⟨.ref _, _, I5.laid (t' := s4.toks) (o := .tup xs.reverse) (fun b ob q => Heap.get?_push_of_some _ q) (Nat.le_refl _) ?_, rfl, q _ (I5.hok.fresh (Nat.le_refl _))⟩
    exact ⟨by rw [List.length_reverse]; exact hz, _, r.reverse, IsTup.new _ _⟩
variable {Γ : Gm} {M M1 M2 : Mem} {a b : Expr} {ds : List D} {pos p : Pos}
theorem DzA.reverse {K : PySem.W.Frag} {H : Hp} : ∀ {ds : List D} {xs : List V}, DzA K H xs ds → DzA K H xs.reverse ds.reverse
  | [], _, h => by
    cases h
    exact .nil
  | d :: ds, _, h => by
    cases h with
    | cons a t =>
      rw [List.reverse_cons, List.reverse_cons]
      exact (DzA.reverse t).app (.cons a .nil)
theorem e_revT {k : Nat} {p1 p2 p3 : Pos} (ha : Ev X Γ M a (.tup ds) M1) : Ev X Γ M (.Subscript a (.Slice none none (some (.UnaryOp .USub (.Constant (.int 1) k p1) p2)) p3) pos) (.tup ds.reverse) M1 :=
  pe_imp (pe_revT ha) fun σ H Q ⟨lo, hm, q⟩ => ⟨lo, hm, fun v H1 s1 m1 z1 => by
    cases z1 with
    | @tup a xs _ hq za => exact ⟨a, xs, rfl, hq, fun p hp => q _ _ (s1.trans (Sx.new hp)) (m1.new hp) (.tup (.inl (.inl upd_same)) (za.reverse.mono (Sx.new hp)))⟩⟩
/-- n - 1, .., 0 -/
def rvD (n : Nat) : List D := (List.range n).map fun i : Nat => D.int ((n : Int) - 1 - (i : Int))
theorem rv_len (n : Nat) : (rvD n).length = n := by unfold rvD; rw [List.length_map, List.length_range]
theorem rv_at {n i : Nat} {d : D} (h : (rvD n)[i]? = some d) : i < n ∧ d = .int ((n : Int) - 1 - (i : Int)) := by
  unfold rvD at h
  rw [List.getElem?_map] at h
  obtain ⟨j, e1, e2⟩ := Option.map_eq_some_iff.mp h
  obtain ⟨h1, h2⟩ := List.getElem?_eq_some_iff.mp e1
  rw [List.length_range] at h1
  rw [List.getElem_range] at h2
  subst h2
  exact ⟨h1, e2.symm⟩
theorem k_rev {tg : Expr} {j : Int} {p2 pos2 : Pos} (h : Ev X Γ M a (.int j) M1) (hj : -(2 ^ 62) ≤ j ∧ j < 2 ^ 62) (hm : X.mg "range" = none) (hm2 : X.mg "reversed" = none) (hg : Gl X "range" := by rfl) (hg2 : Gl X "reversed" := by rfl)
    (hs : starEach [a] X.env = (false, eval a X.env) :: starEach [] X.env := by rfl) (hs2 : starEach [.Call (.Name "range" p2) [a] [] pos2] X.env = (false, eval (.Call (.Name "range" p2) [a] [] pos2) X.env) :: starEach [] X.env := by rfl) :
    Wk X tg Γ M (.Call (.Name "reversed" p) [.Call (.Name "range" p2) [a] [] pos2] [] pos) (rvD j.toNat) M1 :=
  pi_imp (pi_revR hg2 hm2 (prg_1 hg hm h hs) hs2) fun σ H R ⟨lo, hM, q⟩ => ⟨lo, hM, fun v H1 s1 m1 z1 => by
    cases z1
    have e0 : (j - 0).toNat = j.toNat := by rw [Int.sub_zero]
    refine ⟨j, rfl, by decide, by decide, hj.1, hj.2, ?_⟩
    rw [e0]
    refine q _ H1 s1 m1 (fun i H' s2 hi => by rw [rv_len] at hi; exact hi) (fun i H' s2 hi => by rw [rv_len] at hi; exact hi) fun i H' x H'' s2 y d hd => ?_
    obtain ⟨e1, e2⟩ := y
    subst e1 e2
    obtain ⟨_, ed⟩ := rv_at hd
    subst ed
    have e3 : (0 : Int) + ((j.toNat : Nat) : Int) - 1 + (i : Int) * (-1) = ((j.toNat : Nat) : Int) - 1 - (i : Int) := by omega
    rw [e3]
    exact ⟨Sx.refl _, .int _, fun N hN => hN⟩⟩
end
end PR

set_option Elab.async false
set_option linter.all false
set_option maxRecDepth 100000
set_option maxHeartbeats 4000000
/-! PR: repr of data; defs that are called where nothing is being shown. -/
namespace PR
open PySem PySem.Spec PyProof.Rows L2

/-! ### repr -/
def rShow (K : PySem.W.Frag) : List V → Hp → VK → Prop := fun xs H Q => ∃ v d, xs = [v] ∧ Dp K H v d ∧ d.showable = true ∧ d.hasDict = false ∧ d.depth ≤ 60 ∧ d.shown.length ≤ sizeLine ∧ Q (.str d.shown) H
theorem call_show {X : Cx} (hu : X.A.units + 64 < cLine) (hg : X.A.guards = some []) : CallR X (.builtin "repr") (rShow X.K) := by
  intro pins s σ H xs us Q I r h
  obtain ⟨v, d, rfl, hd, sh, nd, dp, sz, q⟩ := h
  cases r with
  | cons rx rn =>
    cases rn
    obtain ⟨as, rd⟩ := Dp.reads I d v _ hd rx
    have fin : ∀ (h' : Heap) (u t' : Nat), (∀ b o, s.heap.get? b = some o → h'.get? b = some o) → EP X pins σ Q (.str d.shown u) { s with heap := h', toks := t' } :=
      fun h' u t' hk => ⟨.str _, H, I.kept hk, ⟨u, rfl⟩, q⟩
    cases rd with
    | none =>
      simp only [PyData.shown] at fin
      exact PySem.P.repr_of_none (fin _ _ _ fun _ _ e => e)
    | bool b =>
      simp only [PyData.shown] at fin
      exact PySem.P.repr_of_bool (fin _ _ _ fun _ _ e => e)
    | int i t =>
      simp only [PyData.shown] at fin
      exact PySem.P.repr_of_int (by simpa [PyData.showable] using sh) (fin _ _ _ fun _ _ e => e)
    | str x t =>
      simp only [PyData.shown] at fin sz
      exact PySem.P.repr_of_str (fin _ _ _ fun _ _ e => e) sz
    | list h1 h2 h3 h4 => exact repr_of_reads' (.list h1 h2 h3 h4) sh (PyData.noDict_hsm nd) hg (by omega) (fun _ _ e => e) (fun h' u tk hk => fin h' u tk hk) sz
    | tuple h1 h2 h3 h4 => exact repr_of_reads' (.tuple h1 h2 h3 h4) sh (PyData.noDict_hsm nd) hg (by omega) (fun _ _ e => e) (fun h' u tk hk => fin h' u tk hk) sz
    | dict h1 h2 h3 h4 h5 => simp [PyData.hasDict] at nd
/-- data that can be shown -/
structure ShD (n : Nat) (d : D) : Prop where
  ok : okD n d = true
  n : n ≤ 60
  sh : (py d).showable = true
  sz : (py d).shown.length ≤ sizeLine
theorem boot_repr : bootBuiltins "repr" = some (.builtin "repr") := by decide +kernel
section
variable {X : Cx} {Γ : Gm} {M M1 M2 M3 : Mem} {a b e o : Expr} {es : List Expr} {x y z d d2 : D} {ds dd : List D} {pos apos p q : Pos} {k j : Nat} {n m : Str} {C : Addr} {ps : List Str} {sp : SpD}
theorem e_repr (hu : X.A.units + 64 < cLine) (hgd : X.A.guards = some []) (hx : PlD M1 x d) (hs : ShD j d) (hm : X.mg "repr" = none) (ha : Ev X Γ M a x M1) (hg : Gl X "repr" := by rfl)
    (he : starEach [a] X.env = (false, eval a X.env) :: starEach [] X.env := by rfl) : Ev X Γ M (.Call (.Name "repr" p) [a] [] pos) (.str (py d).shown) M1 :=
  pe_imp (pe_callB (call_show hu hgd) hg hm boot_repr (a_cons ha a_nil he) (by decide) (by decide) he) fun σ H Q ⟨lo, hM, q⟩ => ⟨lo, hM, fun vs H1 s1 m1 z1 => by
    cases z1 with
    | cons z1 z2 =>
      cases z2
      obtain ⟨h1, h2⟩ := okD_py j d hs.ok
      have := hs.n
      exact ⟨_, py d, rfl, hx.dp hs.ok m1 z1, hs.sh, PyData.hasDict_of_canLay _ h1, by omega, hs.sz, q _ H1 s1 m1 (.str _)⟩⟩
/-- repr(a) != repr(b) of the same data -/
theorem t_reprNe (hu : X.A.units + 64 < cLine) (hgd : X.A.guards = some []) (hx : PlD M1 x d) (hy : PlD M2 y d) (hs : ShD j d) (hm : X.mg "repr" = none) (ha : Ev X Γ M a x M1) (hb : Ev X Γ M1 b y M2) (hg : Gl X "repr" := by rfl)
    (he : starEach [a] X.env = (false, eval a X.env) :: starEach [] X.env := by rfl) (he2 : starEach [b] X.env = (false, eval b X.env) :: starEach [] X.env := by rfl) : EvT X Γ M (.Compare (.Call (.Name "repr" p) [a] [] pos) [.NotEq] [.Call (.Name "repr" q) [b] [] apos] p2) false M2 :=
  evt_is (t_neS (e_repr hu hgd hx hs hm ha hg he) (e_repr hu hgd hy hs hm hb hg he2)) (by rw [decide_eq_true rfl]; rfl)
theorem t_reprEq (hu : X.A.units + 64 < cLine) (hgd : X.A.guards = some []) (hx : PlD M1 x d) (hy : PlD M2 y d) (hs : ShD j d) (hm : X.mg "repr" = none) (ha : Ev X Γ M a x M1) (hb : Ev X Γ M1 b y M2) (hg : Gl X "repr" := by rfl)
    (he : starEach [a] X.env = (false, eval a X.env) :: starEach [] X.env := by rfl) (he2 : starEach [b] X.env = (false, eval b X.env) :: starEach [] X.env := by rfl) : EvT X Γ M (.Compare (.Call (.Name "repr" p) [a] [] pos) [.Eq] [.Call (.Name "repr" q) [b] [] apos] p2) true M2 :=
  evt_is (t_eqS (e_repr hu hgd hx hs hm ha hg he) (e_repr hu hgd hy hs hm hb hg he2)) (decide_eq_true rfl)
end

/-! ### defs that are called where nothing is being shown -/
structure GnOk (P : Program) (w : World) (K : PySem.W.Frag) (mg : Str → Option Value) (base : Heap) (k : Nat) (f : Addr) (fd : FuncData) (ps : List Str) (sp : Sp) : Prop where
  len : ∀ vs H Q E, sp vs H Q E → vs.length = ps.length
  run : ∀ (A : Around) (outer : List Env) (s : Shared) (H : Hp) (args : Args) (us : List Value) (vs : List V) (Q : VK) (E : XK),
    A.guards = some [] → Room k A → Env0 P w K mg base A outer s H → BindsTo s fd args (ps.zip us) → Vals vs us → sp vs H Q E →
    codeAny (model P w) A (.call (.ref f) args) (CR CX0 outer P w H s Q E) s
structure Gg (P : Program) (w : World) (K : PySem.W.Frag) (mg : Str → Option Value) (base : Heap) (k : Nat) (n : Str) (ps : List Str) (sp : SpD) : Prop where
  ex : ∃ f fd, GnOk P w K mg base k f fd ps (toSp K sp) ∧ mg n = some (.ref f) ∧ PySem.W.keepIn K (.ref f) = true ∧ Binds K fd ps []
section
variable {X : Cx} {k : Nat} {f : Addr} {fd : FuncData} {ps : List Str} {sp : Sp} {E : XK} {x : Str} {p pos : Pos} {e : Expr} {es : List Expr} {t : TA}
theorem run_gn {pins : List (Addr × Obj)} {σ : L2.St} {H : Hp} {s : Shared} {Q : VK} {us : List Value} {vs : List V}
    (F : GnOk X.prog X.w X.K X.mg X.base k f fd ps sp) (hg : X.A.guards = some []) (hr : Room k X.A) (hb : Binds X.K fd ps []) (hx : Passes CX0 X E) (I : Inv X pins σ H s) (r : Vals vs us) (h : sp vs H Q E) :
    wpAny (model X.prog X.w) X.A (call (.ref f) us) (EP X pins σ Q) X.xe s := by
  have hl : (us ++ []).length = ps.length := by
    rw [List.append_nil, ← r.length]
    exact F.len _ _ _ _ h
  have hbs := hb s us I.kIn hl
  rw [List.append_nil] at hbs
  have key := F.run X.A X.stack s H ⟨us, []⟩ us vs Q E hg hr I.env0 hbs r h
  apply wpAny_call
  apply codeAny_mono key
  rintro (e | fl) s' hq
  · exact hx pins σ H s e s' I hq
  · cases fl with
    | ret u => exact I.after hq
    | _ => cases hq
theorem pe_gn (F : GnOk X.prog X.w X.K X.mg X.base k f fd ps sp) (hgd : X.A.guards = some []) (hr : Room k X.A) (hg : Gl X x) (hm : X.mg x = some (.ref f)) (hk : PySem.W.keepIn X.K (.ref f) = true) (hb : Binds X.K fd ps []) (hx : Passes CX0 X E)
    (ha : PA X (e :: es) t) (hdb : (x == ("__debug__" : Str)) = false := by decide) (he : starEach (e :: es) X.env = (false, eval e X.env) :: starEach es X.env := by rfl) (hpl : (backTo pos (starEach es X.env)).any (·.1) = false := by rfl) :
    PE X (.Call (.Name x p) (e :: es) [] pos) (tCall sp [] E t) := by
  constructor
  intro pins s σ H Q I h
  apply wpAny_Call_Name_kw
  apply ld_glob I hg hm _ hdb
  apply PySem.W.callWith_K (h₀ := X.base) I.ok.mod.kin hk _ he hpl
  apply thn (ha.run pos pins s σ H _ I h)
  rintro us s1 ⟨vs, H1, I1, r, q⟩
  rw [List.append_nil] at q
  exact ⟨I1.kIn, run_gn F hgd hr hb hx I1 r q⟩
end
section
variable {X : Cx} {Γ : Gm} {M M1 M2 M3 : Mem} {e : Expr} {es : List Expr} {d : D} {ds : List D} {pos p : Pos} {k : Nat} {n : Str} {ps : List Str} {sp : SpD}
theorem e_gcall (F : Gg X.prog X.w X.K X.mg X.base k n ps sp) (hgd : X.A.guards = some []) (hr : Room k X.A) (ha : EvA X Γ M (e :: es) ds M1) (hs : ∀ Q : D → Mem → Prop, Q d M2 → sp ds M1 Q)
    (hg : Gl X n := by rfl) (hdb : (n == ("__debug__" : Str)) = false := by decide) (he : starEach (e :: es) X.env = (false, eval e X.env) :: starEach es X.env := by rfl) (hpl : (backTo pos (starEach es X.env)).any (·.1) = false := by rfl) :
    Ev X Γ M (.Call (.Name n p) (e :: es) [] pos) d M2 := by
  obtain ⟨f, fd, hF, hmg, hk, hb⟩ := F.ex
  refine pe_imp (pe_gn hF hgd hr hg hmg hk hb (pass0 (X := X)) ha hdb he hpl) fun σ H Q ⟨lo, hM, q⟩ => ⟨lo, hM, fun vs H1 s1 m1 z1 => ?_⟩
  show toSp X.K sp (vs ++ []) H1 Q E0
  rw [List.append_nil]
  exact ⟨ds, M1, z1, m1, hs _ fun v H' s2 m2 z2 => q v H' (s1.trans s2) m2 z2⟩
end
section
variable {P : Program} {w : World} {K : PySem.W.Frag} {mg : Str → Option Value} {base : Heap} {x qual : Str} {params : Arguments} {body : List Stmt} {scope : Scope} {dvs : List V} {kws : List (Str × V)} {f : Addr} {fd : FuncData} {N ps : List Str} {k : Nat} {sp : SpD}
theorem deeper_guards {A : Around} {env : Env} (h : A.guards = some []) : (A.deeper env).guards = some [] := h
theorem gn_ok (F : FunD K x qual params body scope dvs kws f fd) (S : FnScope N ps scope) (hlen : ∀ ds M Q, sp ds M Q → ds.length = ps.length) (hpl : ps.length ≤ N.length)
    (hb : ∀ (cdv : Value) (A : Around) (outer : List Env) (s : Shared) (H : Hp) (E : XK), A.guards = some [] → Room k (A.deeper (envOfC qual scope s.heap.objs.size f cdv)) → ∀ ds M Q, sp ds M Q →
      Jss (cxOf CX0 P w K mg base N qual scope f cdv A outer s H E).nox (ds.map some ++ List.replicate (N.length - ds.length) none) M body { nx := fun _ M' => Q .non M', rt := Q }) : GnOk P w K mg base (k + 1) f fd ps (toSp K sp) := by
  obtain ⟨oc, od, dV, kV, doc, pm, an, cdv, ct, osl, rfl, lk, hcd, _, _⟩ := F.ex
  have len : ∀ (vs : List V) (H : Hp) (Q : VK) (E : XK), toSp K sp vs H Q E → vs.length = ps.length := by
    rintro vs H Q E ⟨ds, M, z, _, hs⟩
    rw [z.length]
    exact hlen _ _ _ hs
  constructor
  · exact len
  · intro A outer s H args us vs Q E hgd hr e0 hbs r hsp
    have hin : K.In s.heap := e0.mod.kin.keeps fun b o e => (e0.bs b o e).1
    have hno : s.heap.NoLimit := e0.mod.nolimit.keeps fun b o e => (e0.bs b o e).1
    have hl := len _ _ _ _ hsp
    apply codeAny_call_function hr.depth (hin _ _ lk) rfl S.co S.gen rfl (PySem.W.codeRec_of hin hcd)
    apply hbs
    refine wpAny_newFunctionEnv_cells S.kind ?_ ?_
    · intro y hy
      rcases S.par y.1 (List.of_mem_zip (a := y.1) (b := y.2) hy).1 with q | q
      · exact Or.inl q
      · exact Or.inr ⟨q, PySem.W.cellsFrom_some _ _ _ (Or.inl q)⟩
    · intro env he s1 x1
      subst he
      refine ⟨hno.keeps x1.toInCall.keep, ?_⟩
      apply codeAny_func
      obtain ⟨ds, M, z, hm, hs⟩ := hsp
      have J := (hb cdv A outer s H E hgd (hr.deeper _) ds M _ hs).nox
      have I0 : Inv (cxOf CX0 P w K mg base N qual scope f cdv A outer s H E) [] (start N vs) H s1 := inv_start S hr.hd e0 hl r x1
      have back : ∀ {σ' : L2.St} {H' : Hp} {s' : Shared} {v : V} {u : Value}, Inv (cxOf CX0 P w K mg base N qual scope f cdv A outer s H E) [] σ' H' s' → RelV v u → Q v H' → CE outer P w H s Q u s' :=
        fun {σ' H' s' v u} I2 rv qv => ⟨v, H', I2.os, I2.bare, I2.base, I2.hok, rv, qv⟩
      refine wpAny_mono (J.run [] s1 (start N vs) H { nx := fun _ H' => Q .non H', rt := Q } I0 ⟨lo_start z (by rw [hlen _ _ _ hs]; exact hpl), hm, ?_⟩) ?_ (fun e s' hx => hx)
      · exact ⟨fun σ' H' Γ' M' a _ b c => c _ H' a b .non, fun v H' d M' a b c e => e v H' a b c, fun _ _ _ _ _ _ _ c => c.elim, fun _ _ _ _ _ _ _ c => c.elim⟩
      · rintro fl s' hfl
        cases fl with
        | ret u =>
          obtain ⟨v, σ', H', I2, rv, qv⟩ := hfl
          exact back I2 rv qv
        | next =>
          obtain ⟨σ', H', I2, qv⟩ := hfl
          exact back (v := V.non) (u := Value.none) I2 rfl qv
        | brk => exact hfl.elim fun _ z => z.elim fun _ z => z.2.elim
        | cont => exact hfl.elim fun _ z => z.elim fun _ z => z.2.elim
theorem gg_mk {n : Str} (ok : GnOk P w K mg base k f fd ps (toSp K sp)) (hm : mg n = some (.ref f)) (hk : PySem.W.keepIn K (.ref f) = true) (hb : Binds K fd ps []) : Gg P w K mg base k n ps sp := ⟨f, fd, ok, hm, hk, hb⟩
end
end PR

set_option Elab.async false
set_option linter.all false
set_option maxRecDepth 100000
set_option maxHeartbeats 4000000
/-! PR: a law's end where the law shows data. -/
namespace PR
open PySem PySem.Spec PyProof.Rows L2
theorem law_gn {P : Program} {w : World} {K : PySem.W.Frag} {mg mb : Str → Option Value} {k : Nat} {fa a : Addr} {fd : FuncData} {x : Str} {sp : Sp} {s0 : Shared} {vs : List Value} {ns : List Int}
    (KX : K.In s0.heap) (hns : s0.heap.Ns mainGlobals mg) (hb : s0.heap.Ns builtinsNs mb) (hbb : ∀ y : Str, y ≠ "__name__" → mb y = bootBuiltins y) (hlim : s0.heap.NoLimit) (hg : s0.gens = #[])
    (ha : s0.heap.get? a = some { cls := .type "list", data := .seq vs.toArray }) (hi : IntsAre vs ns) (hl : ns.length ≤ sizeLine) (hr : Room k callerA)
    (F : ∀ base : Heap, K.In base → base.Ns mainGlobals mg → GnOk P w K mg base k fa fd [x] sp) (hbind : ∀ (s : Shared) (u : Value), BindsTo s fd ⟨[u], []⟩ [(x, u)])
    (hsp : ∀ H : Hp, L2.Only H → SqL K H a (ns.map V.int) → sp [.ref a] H (fun v _ => v = .bl true) fun _ _ _ => False) :
    codeAny (model P w) callerA (.call (.ref fa) ⟨[.ref a], []⟩) (fun r s' => r = .ok (.ret (.bool true)) ∧ OldK s0.heap s'.heap ∧ s'.os = s0.os ∧ AllBare s'.gens) s0 := by
  have rv := vals_ints hi
  have hsz : (ns.map V.int).length ≤ sizeLine := by
    rw [List.length_map]
    exact hl
  -- the script is tracked where it is not one of the module's own objects
  obtain ⟨H, hH, hS⟩ : ∃ H : Hp, (∀ b u, H b = some u → b = a ∧ K.lookup a = none ∧ u = .frz { cls := .type "list", data := .seq vs.toArray } (.lst (ns.map V.int))) ∧ SqL K H a (ns.map V.int) := by
    cases hk : K.lookup a with
    | none =>
      refine ⟨fun b => if b = a then some (.frz { cls := .type "list", data := .seq vs.toArray } (.lst (ns.map V.int))) else none, fun b u z => ?_, .inl (.inr ⟨{ cls := .type "list", data := .seq vs.toArray }, if_pos rfl⟩)⟩
      by_cases e : b = a
      · have z := (if_pos e).symm.trans z
        cases z
        exact ⟨e, rfl, rfl⟩
      · have z := (if_neg e).symm.trans z
        cases z
    | some o =>
      have e := KX a o hk
      rw [ha] at e
      cases e
      exact ⟨fun _ => none, fun b u z => (by cases z), .inr ⟨_, vs.toArray, _, hk, rfl, rfl, rfl, by rw [List.size_toArray, hi.length]; exact hl, by simpa using rv⟩⟩
  have none_of : ∀ b, b ≠ a → H b = none := fun b hb => by
    cases q : H b with
    | none => rfl
    | some u => exact absurd (hH b u q).1 hb
  have only : L2.Only H := fun b => by
    cases q : H b with
    | none => exact .inl rfl
    | some u => exact .inr ⟨_, _, by rw [(hH b u q).2.2]⟩
  have hok : HOk P w H s0.heap := fun b u z => by
    obtain ⟨rfl, _, rfl⟩ := hH b u z
    exact ⟨ha, hsz, vs, _, rv, ha⟩
  have hns' : ∀ {b : Addr} {m : Str → Option Value}, s0.heap.Ns b m → (hidT s0.heap H).Ns b m := by
    rintro b m ⟨o, es, ep, e, d, r⟩
    refine ⟨o, es, ep, hidT_get e (none_of b fun z => ?_), d, r⟩
    rw [z, ha] at e
    cases e
    have d' : Data.seq vs.toArray _ = Data.dict es ep := d
    cases d'
  have hK : K.In (hidT s0.heap H) := fun b o e => by
    refine hidT_get (KX b o e) ?_
    cases q : H b with
    | none => rfl
    | some u =>
      obtain ⟨z, y, _⟩ := hH b u q
      rw [z, y] at e
      cases e
  obtain ⟨mc, l1, l2⟩ := hlim
  have e0 : Env0 P w K mg (hidT s0.heap H) callerA [] s0 H := {
    frames := rfl
    mod := ⟨hK, hns' hns, ⟨mb, hns' hb, hbb⟩, ⟨mc, hns' l1, l2⟩⟩
    bs := fun b o e => of_hidT e
    bsz := Nat.le_of_eq (hidT_size _ _)
    funs := trivial
    frf := fun b z => by cases z
    hok := hok
    bare := .of_eq hg }
  have key := (F _ hK (hns' hns)).run callerA [] s0 H ⟨[.ref a], []⟩ [.ref a] [.ref a] _ _ rfl hr e0 (hbind s0 (.ref a)) (.cons rfl .nil) (hsp H only hS)
  apply codeAny_mono key
  rintro (e | fl) s' h
  · exact False.elim h
  · cases fl with
    | ret u =>
      obtain ⟨v, H', os, bare, un, hok', rel, q⟩ := h
      have q : v = .bl true := q
      subst q
      obtain rfl : u = Value.bool true := rel
      refine ⟨rfl, OldK.of_keep fun b o e => ?_, os, bare⟩
      cases q : H b with
      | none => exact un.keep b o e q (fun z => by cases z) (by simp)
      | some u =>
        obtain ⟨_, _, z⟩ := hH b u q
        rw [z] at q
        have y1 := (hok b _ q).1
        have y2 := (hok' b _ (un.frzs b _ _ q)).1
        rw [e] at y1
        cases y1
        exact y2
    | _ => exact False.elim h
theorem walk_gn {l : PySem.W.OpenLaw} {n k : Nat} {q : Program} {loose : List Str} {XP : (Str → Option Value) → Heap → Prop} {YP : World → Heap → Prop} {d : DefRec} {x : Str}
    (hn : l.most = some n) (hn2 : n ≤ sizeLine) (hdf : d.params.defaults = []) (hr : Room k callerA)
    (F : ∀ (w : World) (mg : Str → Option Value) (fa : Addr) (h : Heap), YP w h → h.Ns mainGlobals mg → mg d.name = some (.ref fa) →
      ∃ (K : PySem.W.Frag) (fd : FuncData) (sp : Sp), K.In h ∧ (∀ (s : Shared) (u : Value), BindsTo s fd ⟨[u], []⟩ [(x, u)]) ∧
        (∀ (H : Hp) (a : Addr) (ns : List Int), ns.length ≤ n → L2.Only H → SqL K H a (ns.map V.int) → sp [.ref a] H (fun v _ => v = .bl true) fun _ _ _ => False) ∧
        ∀ base : Heap, K.In base → base.Ns mainGlobals mg → GnOk l.prog w K mg base k fa fd [x] sp) :
    PySem.W.WalkO q loose XP YP l.row.toRowW d [] (fun f vs => PySem.call f vs) := by
  apply Att.attach_call hn hdf
  intro w s₀ s₁ mg mb fa o pm cd doc a vs ns G Y ho hd hcd hmg hobj hints hlen hg
  obtain ⟨K, fd, sp, KX, hb, hsp, hF⟩ := F w mg fa _ Y G.T.g hmg
  apply law_gn KX G.T.g G.T.b G.T.builtins G.T.nolimit hg hobj hints (Nat.le_trans hlen hn2) hr hF hb
  exact fun H hO hS => hsp H a ns hlen hO hS
end PR

set_option Elab.async false
set_option linter.all false
set_option maxRecDepth 100000
set_option maxHeartbeats 4000000
namespace H
open PySem PySem.Spec PyProof.Rows L2 PR
structure Top (K : PySem.W.Frag) (mg : Str → Option Value) : Prop where
  c : He.SaysD fa fn K
  fx : fxB K = true
  g : ∃ h : Heap, K.In h ∧ h.Ns mainGlobals mg
section
variable {K : PySem.W.Frag} {mg : Str → Option Value}
theorem Top.glo (T : Top K mg) (i : Nat) {x : Str} (h : fa[i]? = some (.glo x) := by rfl) : mg x = some (.ref (He.ga K x)) := let ⟨_, X, G⟩ := T.g; He.glo_ok X G (T.c.fact i h)
theorem Top.free (T : Top K mg) (i : Nat) {x : Str} (h : fa[i]? = some (.free x) := by rfl) : mg x = none := let ⟨_, X, G⟩ := T.g; He.free_ok X G (T.c.fact i h)
theorem Top.int (T : Top K mg) (i : Nat) {x : Str} {n : Int} (h : fa[i]? = some (.int x n) := by rfl) : ∃ t, mg x = some (.int n t) := let ⟨_, X, G⟩ := T.g; He.int_ok X G (T.c.fact i h)
theorem Top.str (T : Top K mg) (i : Nat) {x z : Str} (h : fa[i]? = some (.str x z) := by rfl) : ∃ t, mg x = some (.str z t) := let ⟨_, X, G⟩ := T.g; He.str_ok X G (T.c.fact i h)
theorem Top.cls (T : Top K mg) (i : Nat) {x : Str} (h : fa[i]? = some (.cls x) := by rfl) : Cls K (He.ga K x) := He.cls_ok (T.c.fact i h)
theorem Top.noat (T : Top K mg) (i : Nat) {x f : Str} (h : fa[i]? = some (.noat x f) := by rfl) : NoAttr K (He.ga K x) f := He.noat_ok (T.c.fact i h)
theorem Top.meth (T : Top K mg) (i : Nat) {x m : Str} (h : fa[i]? = some (.meth x m) := by rfl) : Meth K (He.ga K x) m (He.ma K (He.ga K x) m) := He.meth_ok (T.c.fact i h)
theorem Top.mkr (T : Top K mg) (i : Nat) {x : Str} (h : fa[i]? = some (.mkr x) := by rfl) : Mk K (He.ga K x) (He.ma K (He.ga K x) "__init__") := He.mkr_ok (T.c.fact i h)
end
section
variable {K : PySem.W.Frag} {mg : Str → Option Value} (T : Top K mg)
include T
theorem g__wall : mg "_wall" = some (.ref (He.ga K "_wall")) := T.glo 0
theorem g_PointError : mg "PointError" = some (.ref (He.ga K "PointError")) := T.glo 1
theorem g_NoName : mg "NoName" = some (.ref (He.ga K "NoName")) := T.glo 2
theorem g_NoNumber : mg "NoNumber" = some (.ref (He.ga K "NoNumber")) := T.glo 3
theorem g_Twice : mg "Twice" = some (.ref (He.ga K "Twice")) := T.glo 4
theorem g_NoBox : mg "NoBox" = some (.ref (He.ga K "NoBox")) := T.glo 5
theorem g_Unknown : mg "Unknown" = some (.ref (He.ga K "Unknown")) := T.glo 6
theorem g_NoFrame : mg "NoFrame" = some (.ref (He.ga K "NoFrame")) := T.glo 7
theorem g_NoSum : mg "NoSum" = some (.ref (He.ga K "NoSum")) := T.glo 8
theorem g_NoPoint : mg "NoPoint" = some (.ref (He.ga K "NoPoint")) := T.glo 9
theorem g_NoProgram : mg "NoProgram" = some (.ref (He.ga K "NoProgram")) := T.glo 10
theorem g_own_words : mg "own_words" = some (.ref (He.ga K "own_words")) := T.glo 11
theorem g_is_whole : mg "is_whole" = some (.ref (He.ga K "is_whole")) := T.glo 12
theorem g_is_within : mg "is_within" = some (.ref (He.ga K "is_within")) := T.glo 13
theorem g_are_all : mg "are_all" = some (.ref (He.ga K "are_all")) := T.glo 14
theorem g_is_name : mg "is_name" = some (.ref (He.ga K "is_name")) := T.glo 15
theorem g_need_box : mg "need_box" = some (.ref (He.ga K "need_box")) := T.glo 16
theorem g_boxed : mg "boxed" = some (.ref (He.ga K "boxed")) := T.glo 17
theorem g_Frame : mg "Frame" = some (.ref (He.ga K "Frame")) := T.glo 18
theorem g_need_frame : mg "need_frame" = some (.ref (He.ga K "need_frame")) := T.glo 19
theorem g_need_whole : mg "need_whole" = some (.ref (He.ga K "need_whole")) := T.glo 20
theorem g_need_by : mg "need_by" = some (.ref (He.ga K "need_by")) := T.glo 21
theorem g_greatest_part : mg "greatest_part" = some (.ref (He.ga K "greatest_part")) := T.glo 22
theorem g_least_part : mg "least_part" = some (.ref (He.ga K "least_part")) := T.glo 23
theorem g_common_of_two : mg "common_of_two" = some (.ref (He.ga K "common_of_two")) := T.glo 24
theorem g_common_part : mg "common_part" = some (.ref (He.ga K "common_part")) := T.glo 25
theorem g_least_alike : mg "least_alike" = some (.ref (He.ga K "least_alike")) := T.glo 26
theorem g_many_alike : mg "many_alike" = some (.ref (He.ga K "many_alike")) := T.glo 27
theorem g_are_wholes : mg "are_wholes" = some (.ref (He.ga K "are_wholes")) := T.glo 28
theorem g_is_sum : mg "is_sum" = some (.ref (He.ga K "is_sum")) := T.glo 29
theorem g_need_sum : mg "need_sum" = some (.ref (He.ga K "need_sum")) := T.glo 30
theorem g_need_worths : mg "need_worths" = some (.ref (He.ga K "need_worths")) := T.glo 31
theorem g_worth_of : mg "worth_of" = some (.ref (He.ga K "worth_of")) := T.glo 32
theorem g_Node : mg "Node" = some (.ref (He.ga K "Node")) := T.glo 33
theorem g_Deed : mg "Deed" = some (.ref (He.ga K "Deed")) := T.glo 34
theorem g_Test : mg "Test" = some (.ref (He.ga K "Test")) := T.glo 35
theorem g_Round : mg "Round" = some (.ref (He.ga K "Round")) := T.glo 36
theorem g_is_of : mg "is_of" = some (.ref (He.ga K "is_of")) := T.glo 37
theorem g_is_pair : mg "is_pair" = some (.ref (He.ga K "is_pair")) := T.glo 38
theorem g_is_test_wish : mg "is_test_wish" = some (.ref (He.ga K "is_test_wish")) := T.glo 39
theorem g_are_groups : mg "are_groups" = some (.ref (He.ga K "are_groups")) := T.glo 40
theorem g_is_step : mg "is_step" = some (.ref (He.ga K "is_step")) := T.glo 41
theorem g_Builder : mg "Builder" = some (.ref (He.ga K "Builder")) := T.glo 42
theorem g_Program : mg "Program" = some (.ref (He.ga K "Program")) := T.glo 43
theorem g__law_cell : mg "_law_cell" = some (.ref (He.ga K "_law_cell")) := T.glo 44
theorem g__law_box : mg "_law_box" = some (.ref (He.ga K "_law_box")) := T.glo 45
theorem g__law_take : mg "_law_take" = some (.ref (He.ga K "_law_take")) := T.glo 46
theorem g__law_names : mg "_law_names" = some (.ref (He.ga K "_law_names")) := T.glo 47
theorem g__law_small_boxed : mg "_law_small_boxed" = some (.ref (He.ga K "_law_small_boxed")) := T.glo 48
theorem g__law_small_frame : mg "_law_small_frame" = some (.ref (He.ga K "_law_small_frame")) := T.glo 49
theorem g__law_sum : mg "_law_sum" = some (.ref (He.ga K "_law_sum")) := T.glo 50
theorem g__law_group : mg "_law_group" = some (.ref (He.ga K "_law_group")) := T.glo 51
theorem g__law_groups : mg "_law_groups" = some (.ref (He.ga K "_law_groups")) := T.glo 52
theorem g__law_step : mg "_law_step" = some (.ref (He.ga K "_law_step")) := T.glo 53
theorem g__law_wish : mg "_law_wish" = some (.ref (He.ga K "_law_wish")) := T.glo 54
theorem g__law_nodes : mg "_law_nodes" = some (.ref (He.ga K "_law_nodes")) := T.glo 55
theorem g__law_size : mg "_law_size" = some (.ref (He.ga K "_law_size")) := T.glo 56
theorem g__law_great : mg "_law_great" = some (.ref (He.ga K "_law_great")) := T.glo 57
theorem g__law_right : mg "_law_right" = some (.ref (He.ga K "_law_right")) := T.glo 58
theorem g_law : mg "law" = some (.ref (He.ga K "law")) := T.glo 59
theorem t_LETTERS : ∃ t, mg "LETTERS" = some (.str "abcdefghijklmnopqrstuvwxyz" t) := T.str 60
theorem i_LONGEST_NAME : ∃ t, mg "LONGEST_NAME" = some (.int 6 t) := T.int 61
theorem t_OWN : ∃ t, mg "OWN" = some (.str "mark number wish test round deed from to step all and divides" t) := T.str 62
theorem i_FAR : ∃ t, mg "FAR" = some (.int 99 t) := T.int 63
theorem i_WIDE_MARK : ∃ t, mg "WIDE_MARK" = some (.int 11 t) := T.int 64
theorem i_WIDE_NUMBER : ∃ t, mg "WIDE_NUMBER" = some (.int 5 t) := T.int 65
theorem i_LONGEST : ∃ t, mg "LONGEST" = some (.int 11 t) := T.int 66
theorem t_MOST : ∃ t, mg "MOST" = some (.str "most" t) := T.str 67
theorem t_EVEN : ∃ t, mg "EVEN" = some (.str "even" t) := T.str 68
theorem i_GREATEST_BY : ∃ t, mg "GREATEST_BY" = some (.int 5 t) := T.int 69
theorem i_MOST_NODES : ∃ t, mg "MOST_NODES" = some (.int 250 t) := T.int 70
theorem i_MOST_DEEP : ∃ t, mg "MOST_DEEP" = some (.int 10 t) := T.int 71
theorem i_MOST_THINGS : ∃ t, mg "MOST_THINGS" = some (.int 60 t) := T.int 72
theorem i_MOST_GROUPS : ∃ t, mg "MOST_GROUPS" = some (.int 20 t) := T.int 73
theorem b_abs : mg "abs" = none := T.free 74
theorem b_all : mg "all" = none := T.free 75
theorem b_bool : mg "bool" = none := T.free 76
theorem b_divmod : mg "divmod" = none := T.free 77
theorem b_int : mg "int" = none := T.free 78
theorem b_isinstance : mg "isinstance" = none := T.free 79
theorem b_len : mg "len" = none := T.free 80
theorem b_list : mg "list" = none := T.free 81
theorem b_max : mg "max" = none := T.free 82
theorem b_min : mg "min" = none := T.free 83
theorem b_range : mg "range" = none := T.free 84
theorem b_repr : mg "repr" = none := T.free 85
theorem b_reversed : mg "reversed" = none := T.free 86
theorem b_str : mg "str" = none := T.free 87
theorem b_sum : mg "sum" = none := T.free 88
theorem b_tuple : mg "tuple" = none := T.free 89
theorem b_zip : mg "zip" = none := T.free 90
theorem c_Frame : Cls K (He.ga K "Frame") := T.cls 91
theorem n_Frame_boxed_marks : NoAttr K (He.ga K "Frame") "boxed_marks" := T.noat 92
theorem n_Frame_boxed_numbers : NoAttr K (He.ga K "Frame") "boxed_numbers" := T.noat 93
theorem k_Frame : Mk K (He.ga K "Frame") (He.ma K (He.ga K "Frame") "__init__") := T.mkr 94
theorem m_Frame___init__ : Meth K (He.ga K "Frame") "__init__" (He.ma K (He.ga K "Frame") "__init__") := T.meth 95
theorem m_Frame_all_boxed : Meth K (He.ga K "Frame") "all_boxed" (He.ma K (He.ga K "Frame") "all_boxed") := T.meth 96
theorem m_Frame_marks : Meth K (He.ga K "Frame") "marks" (He.ma K (He.ga K "Frame") "marks") := T.meth 97
theorem m_Frame_numbers : Meth K (He.ga K "Frame") "numbers" (He.ma K (He.ga K "Frame") "numbers") := T.meth 98
theorem m_Frame_names : Meth K (He.ga K "Frame") "names" (He.ma K (He.ga K "Frame") "names") := T.meth 99
theorem m_Frame_place : Meth K (He.ga K "Frame") "place" (He.ma K (He.ga K "Frame") "place") := T.meth 100
theorem m_Frame_box : Meth K (He.ga K "Frame") "box" (He.ma K (He.ga K "Frame") "box") := T.meth 101
theorem m_Frame_size : Meth K (He.ga K "Frame") "size" (He.ma K (He.ga K "Frame") "size") := T.meth 102
theorem m_Frame_sums_at : Meth K (He.ga K "Frame") "sums_at" (He.ma K (He.ga K "Frame") "sums_at") := T.meth 103
theorem m_Frame_mark_sums : Meth K (He.ga K "Frame") "mark_sums" (He.ma K (He.ga K "Frame") "mark_sums") := T.meth 104
theorem m_Frame_number_sums : Meth K (He.ga K "Frame") "number_sums" (He.ma K (He.ga K "Frame") "number_sums") := T.meth 105
theorem m_Frame_is_point : Meth K (He.ga K "Frame") "is_point" (He.ma K (He.ga K "Frame") "is_point") := T.meth 106
theorem m_Frame_is_worths : Meth K (He.ga K "Frame") "is_worths" (He.ma K (He.ga K "Frame") "is_worths") := T.meth 107
theorem m_Frame_told : Meth K (He.ga K "Frame") "told" (He.ma K (He.ga K "Frame") "told") := T.meth 108
theorem c_Node : Cls K (He.ga K "Node") := T.cls 109
theorem n_Node_body : NoAttr K (He.ga K "Node") "body" := T.noat 110
theorem k_Node : Mk K (He.ga K "Node") (He.ma K (He.ga K "Node") "__init__") := T.mkr 111
theorem m_Node___init__ : Meth K (He.ga K "Node") "__init__" (He.ma K (He.ga K "Node") "__init__") := T.meth 112
theorem m_Node_do_body : Meth K (He.ga K "Node") "do_body" (He.ma K (He.ga K "Node") "do_body") := T.meth 113
theorem m_Node_count_body : Meth K (He.ga K "Node") "count_body" (He.ma K (He.ga K "Node") "count_body") := T.meth 114
theorem c_Deed : Cls K (He.ga K "Deed") := T.cls 115
theorem n_Deed_body : NoAttr K (He.ga K "Deed") "body" := T.noat 116
theorem n_Deed_word : NoAttr K (He.ga K "Deed") "word" := T.noat 117
theorem k_Deed : Mk K (He.ga K "Deed") (He.ma K (He.ga K "Deed") "__init__") := T.mkr 118
theorem m_Deed___init__ : Meth K (He.ga K "Deed") "__init__" (He.ma K (He.ga K "Deed") "__init__") := T.meth 119
theorem m_Deed_done : Meth K (He.ga K "Deed") "done" (He.ma K (He.ga K "Deed") "done") := T.meth 120
theorem m_Deed_counted : Meth K (He.ga K "Deed") "counted" (He.ma K (He.ga K "Deed") "counted") := T.meth 121
theorem m_Deed_do_body : Meth K (He.ga K "Deed") "do_body" (He.ma K (He.ga K "Deed") "do_body") := T.meth 122
theorem m_Deed_count_body : Meth K (He.ga K "Deed") "count_body" (He.ma K (He.ga K "Deed") "count_body") := T.meth 123
theorem c_Test : Cls K (He.ga K "Test") := T.cls 124
theorem n_Test_body : NoAttr K (He.ga K "Test") "body" := T.noat 125
theorem n_Test_tests : NoAttr K (He.ga K "Test") "tests" := T.noat 126
theorem k_Test : Mk K (He.ga K "Test") (He.ma K (He.ga K "Test") "__init__") := T.mkr 127
theorem m_Test___init__ : Meth K (He.ga K "Test") "__init__" (He.ma K (He.ga K "Test") "__init__") := T.meth 128
theorem m_Test_holds_now : Meth K (He.ga K "Test") "holds_now" (He.ma K (He.ga K "Test") "holds_now") := T.meth 129
theorem m_Test_done : Meth K (He.ga K "Test") "done" (He.ma K (He.ga K "Test") "done") := T.meth 130
theorem m_Test_counted : Meth K (He.ga K "Test") "counted" (He.ma K (He.ga K "Test") "counted") := T.meth 131
theorem m_Test_do_body : Meth K (He.ga K "Test") "do_body" (He.ma K (He.ga K "Test") "do_body") := T.meth 132
theorem m_Test_count_body : Meth K (He.ga K "Test") "count_body" (He.ma K (He.ga K "Test") "count_body") := T.meth 133
theorem c_Round : Cls K (He.ga K "Round") := T.cls 134
theorem n_Round_body : NoAttr K (He.ga K "Round") "body" := T.noat 135
theorem n_Round_high : NoAttr K (He.ga K "Round") "high" := T.noat 136
theorem n_Round_highs : NoAttr K (He.ga K "Round") "highs" := T.noat 137
theorem n_Round_low : NoAttr K (He.ga K "Round") "low" := T.noat 138
theorem n_Round_lows : NoAttr K (He.ga K "Round") "lows" := T.noat 139
theorem n_Round_spot : NoAttr K (He.ga K "Round") "spot" := T.noat 140
theorem n_Round_step : NoAttr K (He.ga K "Round") "step" := T.noat 141
theorem k_Round : Mk K (He.ga K "Round") (He.ma K (He.ga K "Round") "__init__") := T.mkr 142
theorem m_Round___init__ : Meth K (He.ga K "Round") "__init__" (He.ma K (He.ga K "Round") "__init__") := T.meth 143
theorem m_Round_start : Meth K (He.ga K "Round") "start" (He.ma K (He.ga K "Round") "start") := T.meth 144
theorem m_Round_end : Meth K (He.ga K "Round") "end" (He.ma K (He.ga K "Round") "end") := T.meth 145
theorem m_Round_is_step : Meth K (He.ga K "Round") "is_step" (He.ma K (He.ga K "Round") "is_step") := T.meth 146
theorem m_Round_through : Meth K (He.ga K "Round") "through" (He.ma K (He.ga K "Round") "through") := T.meth 147
theorem m_Round_done : Meth K (He.ga K "Round") "done" (He.ma K (He.ga K "Round") "done") := T.meth 148
theorem m_Round_counted : Meth K (He.ga K "Round") "counted" (He.ma K (He.ga K "Round") "counted") := T.meth 149
theorem m_Round_many_through : Meth K (He.ga K "Round") "many_through" (He.ma K (He.ga K "Round") "many_through") := T.meth 150
theorem m_Round_do_body : Meth K (He.ga K "Round") "do_body" (He.ma K (He.ga K "Round") "do_body") := T.meth 151
theorem m_Round_count_body : Meth K (He.ga K "Round") "count_body" (He.ma K (He.ga K "Round") "count_body") := T.meth 152
theorem c_Builder : Cls K (He.ga K "Builder") := T.cls 153
theorem n_Builder_count : NoAttr K (He.ga K "Builder") "count" := T.noat 154
theorem n_Builder_home : NoAttr K (He.ga K "Builder") "home" := T.noat 155
theorem n_Builder_marks_told : NoAttr K (He.ga K "Builder") "marks_told" := T.noat 156
theorem k_Builder : Mk K (He.ga K "Builder") (He.ma K (He.ga K "Builder") "__init__") := T.mkr 157
theorem m_Builder___init__ : Meth K (He.ga K "Builder") "__init__" (He.ma K (He.ga K "Builder") "__init__") := T.meth 158
theorem m_Builder_body_of : Meth K (He.ga K "Builder") "body_of" (He.ma K (He.ga K "Builder") "body_of") := T.meth 159
theorem m_Builder_node_of : Meth K (He.ga K "Builder") "node_of" (He.ma K (He.ga K "Builder") "node_of") := T.meth 160
theorem m_Builder_is_deed : Meth K (He.ga K "Builder") "is_deed" (He.ma K (He.ga K "Builder") "is_deed") := T.meth 161
theorem m_Builder_is_test : Meth K (He.ga K "Builder") "is_test" (He.ma K (He.ga K "Builder") "is_test") := T.meth 162
theorem m_Builder_is_round : Meth K (He.ga K "Builder") "is_round" (He.ma K (He.ga K "Builder") "is_round") := T.meth 163
theorem c_Program : Cls K (He.ga K "Program") := T.cls 164
theorem n_Program_count : NoAttr K (He.ga K "Program") "count" := T.noat 165
theorem n_Program_home : NoAttr K (He.ga K "Program") "home" := T.noat 166
theorem n_Program_nodes : NoAttr K (He.ga K "Program") "nodes" := T.noat 167
theorem n_Program_told_parts : NoAttr K (He.ga K "Program") "told_parts" := T.noat 168
theorem k_Program : Mk K (He.ga K "Program") (He.ma K (He.ga K "Program") "__init__") := T.mkr 169
theorem m_Program___init__ : Meth K (He.ga K "Program") "__init__" (He.ma K (He.ga K "Program") "__init__") := T.meth 170
theorem m_Program_frame : Meth K (He.ga K "Program") "frame" (He.ma K (He.ga K "Program") "frame") := T.meth 171
theorem m_Program_parts : Meth K (He.ga K "Program") "parts" (He.ma K (He.ga K "Program") "parts") := T.meth 172
theorem m_Program_size : Meth K (He.ga K "Program") "size" (He.ma K (He.ga K "Program") "size") := T.meth 173
theorem m_Program_told : Meth K (He.ga K "Program") "told" (He.ma K (He.ga K "Program") "told") := T.meth 174
theorem x_isi {c e : Str} {b : Bool} (i : Nat) (h : isiP[i]? = some (c, e, b) := by rfl) : PySem.W.kitOne K (.ref (He.ga K c)) (.ref (He.ga K e)) = some b :=
  of_decide_eq_true (List.all_eq_true.mp (Bool.and_eq_true_iff.mp T.fx).1 _ (List.mem_of_getElem? h))
theorem x_cls {c : Str} (i : Nat) (cl : Cls K (He.ga K c)) (h : isiN[i]? = some c := by rfl) : Isi K (He.ga K c) := by
  have e := List.all_eq_true.mp (Bool.and_eq_true_iff.mp (Bool.and_eq_true_iff.mp T.fx).2).1 _ (List.mem_of_getElem? h)
  obtain ⟨e1, e⟩ := Bool.and_eq_true_iff.mp e
  obtain ⟨e2, e⟩ := Bool.and_eq_true_iff.mp e
  obtain ⟨e3, e4⟩ := Bool.and_eq_true_iff.mp e
  exact ⟨cl, of_decide_eq_true e1, of_decide_eq_true e2, of_decide_eq_true e3, of_decide_eq_true e4⟩
theorem x_cfn {c m : Str} (i : Nat) (h : cfnP[i]? = some (c, m) := by rfl) : CFn K (He.ga K c) m (He.ma K (He.ga K c) m) := by
  have e := List.all_eq_true.mp (Bool.and_eq_true_iff.mp (Bool.and_eq_true_iff.mp (Bool.and_eq_true_iff.mp T.fx).2).2).1 _ (List.mem_of_getElem? h)
  obtain ⟨e1, e⟩ := Bool.and_eq_true_iff.mp e
  obtain ⟨e2, e⟩ := Bool.and_eq_true_iff.mp e
  obtain ⟨e3, e⟩ := Bool.and_eq_true_iff.mp e
  refine ⟨⟨e1, of_decide_eq_true e2⟩, ?_, e⟩
  dsimp only at e3
  split at e3
  · rename_i g q
    have q1 := of_decide_eq_true e3
    subst q1
    exact q
  · cases e3
theorem x_bty {n : String} {c : Str} (i : Nat) (h : btyP[i]? = some (n, c) := by rfl) : PySem.W.kitOne K (.type n) (.ref (He.ga K c)) = some false :=
  of_decide_eq_true (List.all_eq_true.mp (Bool.and_eq_true_iff.mp (Bool.and_eq_true_iff.mp (Bool.and_eq_true_iff.mp T.fx).2).2).2 _ (List.mem_of_getElem? h))
theorem xi_Frame_Frame : PySem.W.kitOne K (.ref (He.ga K "Frame")) (.ref (He.ga K "Frame")) = some true := x_isi T 0
theorem xi_Node_Node : PySem.W.kitOne K (.ref (He.ga K "Node")) (.ref (He.ga K "Node")) = some true := x_isi T 1
theorem xi_Deed_Deed : PySem.W.kitOne K (.ref (He.ga K "Deed")) (.ref (He.ga K "Deed")) = some true := x_isi T 2
theorem xi_Deed_Test : PySem.W.kitOne K (.ref (He.ga K "Deed")) (.ref (He.ga K "Test")) = some false := x_isi T 3
theorem xi_Deed_Round : PySem.W.kitOne K (.ref (He.ga K "Deed")) (.ref (He.ga K "Round")) = some false := x_isi T 4
theorem xi_Test_Deed : PySem.W.kitOne K (.ref (He.ga K "Test")) (.ref (He.ga K "Deed")) = some false := x_isi T 5
theorem xi_Test_Test : PySem.W.kitOne K (.ref (He.ga K "Test")) (.ref (He.ga K "Test")) = some true := x_isi T 6
theorem xi_Test_Round : PySem.W.kitOne K (.ref (He.ga K "Test")) (.ref (He.ga K "Round")) = some false := x_isi T 7
theorem xi_Round_Deed : PySem.W.kitOne K (.ref (He.ga K "Round")) (.ref (He.ga K "Deed")) = some false := x_isi T 8
theorem xi_Round_Test : PySem.W.kitOne K (.ref (He.ga K "Round")) (.ref (He.ga K "Test")) = some false := x_isi T 9
theorem xi_Round_Round : PySem.W.kitOne K (.ref (He.ga K "Round")) (.ref (He.ga K "Round")) = some true := x_isi T 10
theorem xi_Builder_Builder : PySem.W.kitOne K (.ref (He.ga K "Builder")) (.ref (He.ga K "Builder")) = some true := x_isi T 11
theorem xi_Program_Program : PySem.W.kitOne K (.ref (He.ga K "Program")) (.ref (He.ga K "Program")) = some true := x_isi T 12
theorem xc_Frame : Isi K (He.ga K "Frame") := x_cls T 0 (c_Frame T)
theorem xc_Node : Isi K (He.ga K "Node") := x_cls T 1 (c_Node T)
theorem xc_Deed : Isi K (He.ga K "Deed") := x_cls T 2 (c_Deed T)
theorem xc_Test : Isi K (He.ga K "Test") := x_cls T 3 (c_Test T)
theorem xc_Round : Isi K (He.ga K "Round") := x_cls T 4 (c_Round T)
theorem xc_Builder : Isi K (He.ga K "Builder") := x_cls T 5 (c_Builder T)
theorem xc_Program : Isi K (He.ga K "Program") := x_cls T 6 (c_Program T)
theorem xf_Node___init__ : CFn K (He.ga K "Node") "__init__" (He.ma K (He.ga K "Node") "__init__") := x_cfn T 0
theorem F_own_words : ∃ fd, FunD K d_own_words.name d_own_words.qual (defArgs s_own_words) (defBody s_own_words) (defScope s_own_words) (d_own_words.dvs K) (d_own_words.kws K) (He.fAd K d_own_words.at_) fd := T.c.def_ 0 (d := d_own_words)
theorem F_is_whole : ∃ fd, FunD K d_is_whole.name d_is_whole.qual (defArgs s_is_whole) (defBody s_is_whole) (defScope s_is_whole) (d_is_whole.dvs K) (d_is_whole.kws K) (He.fAd K d_is_whole.at_) fd := T.c.def_ 1 (d := d_is_whole)
theorem F_is_within : ∃ fd, FunD K d_is_within.name d_is_within.qual (defArgs s_is_within) (defBody s_is_within) (defScope s_is_within) (d_is_within.dvs K) (d_is_within.kws K) (He.fAd K d_is_within.at_) fd := T.c.def_ 2 (d := d_is_within)
theorem F_are_all : ∃ fd, FunD K d_are_all.name d_are_all.qual (defArgs s_are_all) (defBody s_are_all) (defScope s_are_all) (d_are_all.dvs K) (d_are_all.kws K) (He.fAd K d_are_all.at_) fd := T.c.def_ 3 (d := d_are_all)
theorem F_is_name : ∃ fd, FunD K d_is_name.name d_is_name.qual (defArgs s_is_name) (defBody s_is_name) (defScope s_is_name) (d_is_name.dvs K) (d_is_name.kws K) (He.fAd K d_is_name.at_) fd := T.c.def_ 4 (d := d_is_name)
theorem F_need_box : ∃ fd, FunD K d_need_box.name d_need_box.qual (defArgs s_need_box) (defBody s_need_box) (defScope s_need_box) (d_need_box.dvs K) (d_need_box.kws K) (He.fAd K d_need_box.at_) fd := T.c.def_ 5 (d := d_need_box)
theorem F_boxed : ∃ fd, FunD K d_boxed.name d_boxed.qual (defArgs s_boxed) (defBody s_boxed) (defScope s_boxed) (d_boxed.dvs K) (d_boxed.kws K) (He.fAd K d_boxed.at_) fd := T.c.def_ 6 (d := d_boxed)
theorem F_need_frame : ∃ fd, FunD K d_need_frame.name d_need_frame.qual (defArgs s_need_frame) (defBody s_need_frame) (defScope s_need_frame) (d_need_frame.dvs K) (d_need_frame.kws K) (He.fAd K d_need_frame.at_) fd := T.c.def_ 7 (d := d_need_frame)
theorem F_need_whole : ∃ fd, FunD K d_need_whole.name d_need_whole.qual (defArgs s_need_whole) (defBody s_need_whole) (defScope s_need_whole) (d_need_whole.dvs K) (d_need_whole.kws K) (He.fAd K d_need_whole.at_) fd := T.c.def_ 8 (d := d_need_whole)
theorem F_need_by : ∃ fd, FunD K d_need_by.name d_need_by.qual (defArgs s_need_by) (defBody s_need_by) (defScope s_need_by) (d_need_by.dvs K) (d_need_by.kws K) (He.fAd K d_need_by.at_) fd := T.c.def_ 9 (d := d_need_by)
theorem F_greatest_part : ∃ fd, FunD K d_greatest_part.name d_greatest_part.qual (defArgs s_greatest_part) (defBody s_greatest_part) (defScope s_greatest_part) (d_greatest_part.dvs K) (d_greatest_part.kws K) (He.fAd K d_greatest_part.at_) fd := T.c.def_ 10 (d := d_greatest_part)
theorem F_least_part : ∃ fd, FunD K d_least_part.name d_least_part.qual (defArgs s_least_part) (defBody s_least_part) (defScope s_least_part) (d_least_part.dvs K) (d_least_part.kws K) (He.fAd K d_least_part.at_) fd := T.c.def_ 11 (d := d_least_part)
theorem F_common_of_two : ∃ fd, FunD K d_common_of_two.name d_common_of_two.qual (defArgs s_common_of_two) (defBody s_common_of_two) (defScope s_common_of_two) (d_common_of_two.dvs K) (d_common_of_two.kws K) (He.fAd K d_common_of_two.at_) fd := T.c.def_ 12 (d := d_common_of_two)
theorem F_common_part : ∃ fd, FunD K d_common_part.name d_common_part.qual (defArgs s_common_part) (defBody s_common_part) (defScope s_common_part) (d_common_part.dvs K) (d_common_part.kws K) (He.fAd K d_common_part.at_) fd := T.c.def_ 13 (d := d_common_part)
theorem F_least_alike : ∃ fd, FunD K d_least_alike.name d_least_alike.qual (defArgs s_least_alike) (defBody s_least_alike) (defScope s_least_alike) (d_least_alike.dvs K) (d_least_alike.kws K) (He.fAd K d_least_alike.at_) fd := T.c.def_ 14 (d := d_least_alike)
theorem F_many_alike : ∃ fd, FunD K d_many_alike.name d_many_alike.qual (defArgs s_many_alike) (defBody s_many_alike) (defScope s_many_alike) (d_many_alike.dvs K) (d_many_alike.kws K) (He.fAd K d_many_alike.at_) fd := T.c.def_ 15 (d := d_many_alike)
theorem F_are_wholes : ∃ fd, FunD K d_are_wholes.name d_are_wholes.qual (defArgs s_are_wholes) (defBody s_are_wholes) (defScope s_are_wholes) (d_are_wholes.dvs K) (d_are_wholes.kws K) (He.fAd K d_are_wholes.at_) fd := T.c.def_ 16 (d := d_are_wholes)
theorem F_is_sum : ∃ fd, FunD K d_is_sum.name d_is_sum.qual (defArgs s_is_sum) (defBody s_is_sum) (defScope s_is_sum) (d_is_sum.dvs K) (d_is_sum.kws K) (He.fAd K d_is_sum.at_) fd := T.c.def_ 17 (d := d_is_sum)
theorem F_need_sum : ∃ fd, FunD K d_need_sum.name d_need_sum.qual (defArgs s_need_sum) (defBody s_need_sum) (defScope s_need_sum) (d_need_sum.dvs K) (d_need_sum.kws K) (He.fAd K d_need_sum.at_) fd := T.c.def_ 18 (d := d_need_sum)
theorem F_need_worths : ∃ fd, FunD K d_need_worths.name d_need_worths.qual (defArgs s_need_worths) (defBody s_need_worths) (defScope s_need_worths) (d_need_worths.dvs K) (d_need_worths.kws K) (He.fAd K d_need_worths.at_) fd := T.c.def_ 19 (d := d_need_worths)
theorem F_worth_of : ∃ fd, FunD K d_worth_of.name d_worth_of.qual (defArgs s_worth_of) (defBody s_worth_of) (defScope s_worth_of) (d_worth_of.dvs K) (d_worth_of.kws K) (He.fAd K d_worth_of.at_) fd := T.c.def_ 20 (d := d_worth_of)
theorem F_is_of : ∃ fd, FunD K d_is_of.name d_is_of.qual (defArgs s_is_of) (defBody s_is_of) (defScope s_is_of) (d_is_of.dvs K) (d_is_of.kws K) (He.fAd K d_is_of.at_) fd := T.c.def_ 21 (d := d_is_of)
theorem F_is_pair : ∃ fd, FunD K d_is_pair.name d_is_pair.qual (defArgs s_is_pair) (defBody s_is_pair) (defScope s_is_pair) (d_is_pair.dvs K) (d_is_pair.kws K) (He.fAd K d_is_pair.at_) fd := T.c.def_ 22 (d := d_is_pair)
theorem F_is_test_wish : ∃ fd, FunD K d_is_test_wish.name d_is_test_wish.qual (defArgs s_is_test_wish) (defBody s_is_test_wish) (defScope s_is_test_wish) (d_is_test_wish.dvs K) (d_is_test_wish.kws K) (He.fAd K d_is_test_wish.at_) fd := T.c.def_ 23 (d := d_is_test_wish)
theorem F_are_groups : ∃ fd, FunD K d_are_groups.name d_are_groups.qual (defArgs s_are_groups) (defBody s_are_groups) (defScope s_are_groups) (d_are_groups.dvs K) (d_are_groups.kws K) (He.fAd K d_are_groups.at_) fd := T.c.def_ 24 (d := d_are_groups)
theorem F_is_step : ∃ fd, FunD K d_is_step.name d_is_step.qual (defArgs s_is_step) (defBody s_is_step) (defScope s_is_step) (d_is_step.dvs K) (d_is_step.kws K) (He.fAd K d_is_step.at_) fd := T.c.def_ 25 (d := d_is_step)
theorem F__law_cell : ∃ fd, FunD K d__law_cell.name d__law_cell.qual (defArgs s__law_cell) (defBody s__law_cell) (defScope s__law_cell) (d__law_cell.dvs K) (d__law_cell.kws K) (He.fAd K d__law_cell.at_) fd := T.c.def_ 26 (d := d__law_cell)
theorem F__law_box : ∃ fd, FunD K d__law_box.name d__law_box.qual (defArgs s__law_box) (defBody s__law_box) (defScope s__law_box) (d__law_box.dvs K) (d__law_box.kws K) (He.fAd K d__law_box.at_) fd := T.c.def_ 27 (d := d__law_box)
theorem F__law_take : ∃ fd, FunD K d__law_take.name d__law_take.qual (defArgs s__law_take) (defBody s__law_take) (defScope s__law_take) (d__law_take.dvs K) (d__law_take.kws K) (He.fAd K d__law_take.at_) fd := T.c.def_ 28 (d := d__law_take)
theorem F__law_names : ∃ fd, FunD K d__law_names.name d__law_names.qual (defArgs s__law_names) (defBody s__law_names) (defScope s__law_names) (d__law_names.dvs K) (d__law_names.kws K) (He.fAd K d__law_names.at_) fd := T.c.def_ 29 (d := d__law_names)
theorem F__law_small_boxed : ∃ fd, FunD K d__law_small_boxed.name d__law_small_boxed.qual (defArgs s__law_small_boxed) (defBody s__law_small_boxed) (defScope s__law_small_boxed) (d__law_small_boxed.dvs K) (d__law_small_boxed.kws K) (He.fAd K d__law_small_boxed.at_) fd := T.c.def_ 30 (d := d__law_small_boxed)
theorem F__law_small_frame : ∃ fd, FunD K d__law_small_frame.name d__law_small_frame.qual (defArgs s__law_small_frame) (defBody s__law_small_frame) (defScope s__law_small_frame) (d__law_small_frame.dvs K) (d__law_small_frame.kws K) (He.fAd K d__law_small_frame.at_) fd := T.c.def_ 31 (d := d__law_small_frame)
theorem F__law_sum : ∃ fd, FunD K d__law_sum.name d__law_sum.qual (defArgs s__law_sum) (defBody s__law_sum) (defScope s__law_sum) (d__law_sum.dvs K) (d__law_sum.kws K) (He.fAd K d__law_sum.at_) fd := T.c.def_ 32 (d := d__law_sum)
theorem F__law_group : ∃ fd, FunD K d__law_group.name d__law_group.qual (defArgs s__law_group) (defBody s__law_group) (defScope s__law_group) (d__law_group.dvs K) (d__law_group.kws K) (He.fAd K d__law_group.at_) fd := T.c.def_ 33 (d := d__law_group)
theorem F__law_groups : ∃ fd, FunD K d__law_groups.name d__law_groups.qual (defArgs s__law_groups) (defBody s__law_groups) (defScope s__law_groups) (d__law_groups.dvs K) (d__law_groups.kws K) (He.fAd K d__law_groups.at_) fd := T.c.def_ 34 (d := d__law_groups)
theorem F__law_step : ∃ fd, FunD K d__law_step.name d__law_step.qual (defArgs s__law_step) (defBody s__law_step) (defScope s__law_step) (d__law_step.dvs K) (d__law_step.kws K) (He.fAd K d__law_step.at_) fd := T.c.def_ 35 (d := d__law_step)
theorem F__law_wish : ∃ fd, FunD K d__law_wish.name d__law_wish.qual (defArgs s__law_wish) (defBody s__law_wish) (defScope s__law_wish) (d__law_wish.dvs K) (d__law_wish.kws K) (He.fAd K d__law_wish.at_) fd := T.c.def_ 36 (d := d__law_wish)
theorem F__law_nodes : ∃ fd, FunD K d__law_nodes.name d__law_nodes.qual (defArgs s__law_nodes) (defBody s__law_nodes) (defScope s__law_nodes) (d__law_nodes.dvs K) (d__law_nodes.kws K) (He.fAd K d__law_nodes.at_) fd := T.c.def_ 37 (d := d__law_nodes)
theorem F__law_size : ∃ fd, FunD K d__law_size.name d__law_size.qual (defArgs s__law_size) (defBody s__law_size) (defScope s__law_size) (d__law_size.dvs K) (d__law_size.kws K) (He.fAd K d__law_size.at_) fd := T.c.def_ 38 (d := d__law_size)
theorem F__law_great : ∃ fd, FunD K d__law_great.name d__law_great.qual (defArgs s__law_great) (defBody s__law_great) (defScope s__law_great) (d__law_great.dvs K) (d__law_great.kws K) (He.fAd K d__law_great.at_) fd := T.c.def_ 39 (d := d__law_great)
theorem F__law_right : ∃ fd, FunD K d__law_right.name d__law_right.qual (defArgs s__law_right) (defBody s__law_right) (defScope s__law_right) (d__law_right.dvs K) (d__law_right.kws K) (He.fAd K d__law_right.at_) fd := T.c.def_ 40 (d := d__law_right)
theorem F_law : ∃ fd, FunD K d_law.name d_law.qual (defArgs s_law) (defBody s_law) (defScope s_law) (d_law.dvs K) (d_law.kws K) (He.fAd K d_law.at_) fd := T.c.def_ 41 (d := d_law)
theorem F_Frame___init__ : ∃ fd, FunD K d_Frame___init__.name d_Frame___init__.qual (defArgs s_Frame___init__) (defBody s_Frame___init__) (defScope s_Frame___init__) (d_Frame___init__.dvs K) (d_Frame___init__.kws K) (He.fAd K d_Frame___init__.at_) fd := T.c.def_ 42 (d := d_Frame___init__)
theorem F_Frame_all_boxed : ∃ fd, FunD K d_Frame_all_boxed.name d_Frame_all_boxed.qual (defArgs s_Frame_all_boxed) (defBody s_Frame_all_boxed) (defScope s_Frame_all_boxed) (d_Frame_all_boxed.dvs K) (d_Frame_all_boxed.kws K) (He.fAd K d_Frame_all_boxed.at_) fd := T.c.def_ 43 (d := d_Frame_all_boxed)
theorem F_Frame_marks : ∃ fd, FunD K d_Frame_marks.name d_Frame_marks.qual (defArgs s_Frame_marks) (defBody s_Frame_marks) (defScope s_Frame_marks) (d_Frame_marks.dvs K) (d_Frame_marks.kws K) (He.fAd K d_Frame_marks.at_) fd := T.c.def_ 44 (d := d_Frame_marks)
theorem F_Frame_numbers : ∃ fd, FunD K d_Frame_numbers.name d_Frame_numbers.qual (defArgs s_Frame_numbers) (defBody s_Frame_numbers) (defScope s_Frame_numbers) (d_Frame_numbers.dvs K) (d_Frame_numbers.kws K) (He.fAd K d_Frame_numbers.at_) fd := T.c.def_ 45 (d := d_Frame_numbers)
theorem F_Frame_names : ∃ fd, FunD K d_Frame_names.name d_Frame_names.qual (defArgs s_Frame_names) (defBody s_Frame_names) (defScope s_Frame_names) (d_Frame_names.dvs K) (d_Frame_names.kws K) (He.fAd K d_Frame_names.at_) fd := T.c.def_ 46 (d := d_Frame_names)
theorem F_Frame_place : ∃ fd, FunD K d_Frame_place.name d_Frame_place.qual (defArgs s_Frame_place) (defBody s_Frame_place) (defScope s_Frame_place) (d_Frame_place.dvs K) (d_Frame_place.kws K) (He.fAd K d_Frame_place.at_) fd := T.c.def_ 47 (d := d_Frame_place)
theorem F_Frame_box : ∃ fd, FunD K d_Frame_box.name d_Frame_box.qual (defArgs s_Frame_box) (defBody s_Frame_box) (defScope s_Frame_box) (d_Frame_box.dvs K) (d_Frame_box.kws K) (He.fAd K d_Frame_box.at_) fd := T.c.def_ 48 (d := d_Frame_box)
theorem F_Frame_size : ∃ fd, FunD K d_Frame_size.name d_Frame_size.qual (defArgs s_Frame_size) (defBody s_Frame_size) (defScope s_Frame_size) (d_Frame_size.dvs K) (d_Frame_size.kws K) (He.fAd K d_Frame_size.at_) fd := T.c.def_ 49 (d := d_Frame_size)
theorem F_Frame_sums_at : ∃ fd, FunD K d_Frame_sums_at.name d_Frame_sums_at.qual (defArgs s_Frame_sums_at) (defBody s_Frame_sums_at) (defScope s_Frame_sums_at) (d_Frame_sums_at.dvs K) (d_Frame_sums_at.kws K) (He.fAd K d_Frame_sums_at.at_) fd := T.c.def_ 50 (d := d_Frame_sums_at)
theorem F_Frame_mark_sums : ∃ fd, FunD K d_Frame_mark_sums.name d_Frame_mark_sums.qual (defArgs s_Frame_mark_sums) (defBody s_Frame_mark_sums) (defScope s_Frame_mark_sums) (d_Frame_mark_sums.dvs K) (d_Frame_mark_sums.kws K) (He.fAd K d_Frame_mark_sums.at_) fd := T.c.def_ 51 (d := d_Frame_mark_sums)
theorem F_Frame_number_sums : ∃ fd, FunD K d_Frame_number_sums.name d_Frame_number_sums.qual (defArgs s_Frame_number_sums) (defBody s_Frame_number_sums) (defScope s_Frame_number_sums) (d_Frame_number_sums.dvs K) (d_Frame_number_sums.kws K) (He.fAd K d_Frame_number_sums.at_) fd := T.c.def_ 52 (d := d_Frame_number_sums)
theorem F_Frame_is_point : ∃ fd, FunD K d_Frame_is_point.name d_Frame_is_point.qual (defArgs s_Frame_is_point) (defBody s_Frame_is_point) (defScope s_Frame_is_point) (d_Frame_is_point.dvs K) (d_Frame_is_point.kws K) (He.fAd K d_Frame_is_point.at_) fd := T.c.def_ 53 (d := d_Frame_is_point)
theorem F_Frame_is_worths : ∃ fd, FunD K d_Frame_is_worths.name d_Frame_is_worths.qual (defArgs s_Frame_is_worths) (defBody s_Frame_is_worths) (defScope s_Frame_is_worths) (d_Frame_is_worths.dvs K) (d_Frame_is_worths.kws K) (He.fAd K d_Frame_is_worths.at_) fd := T.c.def_ 54 (d := d_Frame_is_worths)
theorem F_Frame_told : ∃ fd, FunD K d_Frame_told.name d_Frame_told.qual (defArgs s_Frame_told) (defBody s_Frame_told) (defScope s_Frame_told) (d_Frame_told.dvs K) (d_Frame_told.kws K) (He.fAd K d_Frame_told.at_) fd := T.c.def_ 55 (d := d_Frame_told)
theorem F_Node___init__ : ∃ fd, FunD K d_Node___init__.name d_Node___init__.qual (defArgs s_Node___init__) (defBody s_Node___init__) (defScope s_Node___init__) (d_Node___init__.dvs K) (d_Node___init__.kws K) (He.fAd K d_Node___init__.at_) fd := T.c.def_ 56 (d := d_Node___init__)
theorem F_Node_do_body : ∃ fd, FunD K d_Node_do_body.name d_Node_do_body.qual (defArgs s_Node_do_body) (defBody s_Node_do_body) (defScope s_Node_do_body) (d_Node_do_body.dvs K) (d_Node_do_body.kws K) (He.fAd K d_Node_do_body.at_) fd := T.c.def_ 57 (d := d_Node_do_body)
theorem F_Node_count_body : ∃ fd, FunD K d_Node_count_body.name d_Node_count_body.qual (defArgs s_Node_count_body) (defBody s_Node_count_body) (defScope s_Node_count_body) (d_Node_count_body.dvs K) (d_Node_count_body.kws K) (He.fAd K d_Node_count_body.at_) fd := T.c.def_ 58 (d := d_Node_count_body)
theorem F_Deed___init__ : ∃ fd, FunD K d_Deed___init__.name d_Deed___init__.qual (defArgs s_Deed___init__) (defBody s_Deed___init__) (defScope s_Deed___init__) (d_Deed___init__.dvs K) (d_Deed___init__.kws K) (He.fAd K d_Deed___init__.at_) fd := T.c.def_ 59 (d := d_Deed___init__)
theorem F_Deed_done : ∃ fd, FunD K d_Deed_done.name d_Deed_done.qual (defArgs s_Deed_done) (defBody s_Deed_done) (defScope s_Deed_done) (d_Deed_done.dvs K) (d_Deed_done.kws K) (He.fAd K d_Deed_done.at_) fd := T.c.def_ 60 (d := d_Deed_done)
theorem F_Deed_counted : ∃ fd, FunD K d_Deed_counted.name d_Deed_counted.qual (defArgs s_Deed_counted) (defBody s_Deed_counted) (defScope s_Deed_counted) (d_Deed_counted.dvs K) (d_Deed_counted.kws K) (He.fAd K d_Deed_counted.at_) fd := T.c.def_ 61 (d := d_Deed_counted)
theorem F_Deed_do_body : ∃ fd, FunD K d_Deed_do_body.name d_Deed_do_body.qual (defArgs s_Deed_do_body) (defBody s_Deed_do_body) (defScope s_Deed_do_body) (d_Deed_do_body.dvs K) (d_Deed_do_body.kws K) (He.fAd K d_Deed_do_body.at_) fd := T.c.def_ 62 (d := d_Deed_do_body)
theorem F_Deed_count_body : ∃ fd, FunD K d_Deed_count_body.name d_Deed_count_body.qual (defArgs s_Deed_count_body) (defBody s_Deed_count_body) (defScope s_Deed_count_body) (d_Deed_count_body.dvs K) (d_Deed_count_body.kws K) (He.fAd K d_Deed_count_body.at_) fd := T.c.def_ 63 (d := d_Deed_count_body)
theorem F_Test___init__ : ∃ fd, FunD K d_Test___init__.name d_Test___init__.qual (defArgs s_Test___init__) (defBody s_Test___init__) (defScope s_Test___init__) (d_Test___init__.dvs K) (d_Test___init__.kws K) (He.fAd K d_Test___init__.at_) fd := T.c.def_ 64 (d := d_Test___init__)
theorem F_Test_holds_now : ∃ fd, FunD K d_Test_holds_now.name d_Test_holds_now.qual (defArgs s_Test_holds_now) (defBody s_Test_holds_now) (defScope s_Test_holds_now) (d_Test_holds_now.dvs K) (d_Test_holds_now.kws K) (He.fAd K d_Test_holds_now.at_) fd := T.c.def_ 65 (d := d_Test_holds_now)
theorem F_Test_done : ∃ fd, FunD K d_Test_done.name d_Test_done.qual (defArgs s_Test_done) (defBody s_Test_done) (defScope s_Test_done) (d_Test_done.dvs K) (d_Test_done.kws K) (He.fAd K d_Test_done.at_) fd := T.c.def_ 66 (d := d_Test_done)
theorem F_Test_counted : ∃ fd, FunD K d_Test_counted.name d_Test_counted.qual (defArgs s_Test_counted) (defBody s_Test_counted) (defScope s_Test_counted) (d_Test_counted.dvs K) (d_Test_counted.kws K) (He.fAd K d_Test_counted.at_) fd := T.c.def_ 67 (d := d_Test_counted)
theorem F_Test_do_body : ∃ fd, FunD K d_Test_do_body.name d_Test_do_body.qual (defArgs s_Test_do_body) (defBody s_Test_do_body) (defScope s_Test_do_body) (d_Test_do_body.dvs K) (d_Test_do_body.kws K) (He.fAd K d_Test_do_body.at_) fd := T.c.def_ 68 (d := d_Test_do_body)
theorem F_Test_count_body : ∃ fd, FunD K d_Test_count_body.name d_Test_count_body.qual (defArgs s_Test_count_body) (defBody s_Test_count_body) (defScope s_Test_count_body) (d_Test_count_body.dvs K) (d_Test_count_body.kws K) (He.fAd K d_Test_count_body.at_) fd := T.c.def_ 69 (d := d_Test_count_body)
theorem F_Round___init__ : ∃ fd, FunD K d_Round___init__.name d_Round___init__.qual (defArgs s_Round___init__) (defBody s_Round___init__) (defScope s_Round___init__) (d_Round___init__.dvs K) (d_Round___init__.kws K) (He.fAd K d_Round___init__.at_) fd := T.c.def_ 70 (d := d_Round___init__)
theorem F_Round_start : ∃ fd, FunD K d_Round_start.name d_Round_start.qual (defArgs s_Round_start) (defBody s_Round_start) (defScope s_Round_start) (d_Round_start.dvs K) (d_Round_start.kws K) (He.fAd K d_Round_start.at_) fd := T.c.def_ 71 (d := d_Round_start)
theorem F_Round_end : ∃ fd, FunD K d_Round_end.name d_Round_end.qual (defArgs s_Round_end) (defBody s_Round_end) (defScope s_Round_end) (d_Round_end.dvs K) (d_Round_end.kws K) (He.fAd K d_Round_end.at_) fd := T.c.def_ 72 (d := d_Round_end)
theorem F_Round_is_step : ∃ fd, FunD K d_Round_is_step.name d_Round_is_step.qual (defArgs s_Round_is_step) (defBody s_Round_is_step) (defScope s_Round_is_step) (d_Round_is_step.dvs K) (d_Round_is_step.kws K) (He.fAd K d_Round_is_step.at_) fd := T.c.def_ 73 (d := d_Round_is_step)
theorem F_Round_through : ∃ fd, FunD K d_Round_through.name d_Round_through.qual (defArgs s_Round_through) (defBody s_Round_through) (defScope s_Round_through) (d_Round_through.dvs K) (d_Round_through.kws K) (He.fAd K d_Round_through.at_) fd := T.c.def_ 74 (d := d_Round_through)
theorem F_Round_done : ∃ fd, FunD K d_Round_done.name d_Round_done.qual (defArgs s_Round_done) (defBody s_Round_done) (defScope s_Round_done) (d_Round_done.dvs K) (d_Round_done.kws K) (He.fAd K d_Round_done.at_) fd := T.c.def_ 75 (d := d_Round_done)
theorem F_Round_counted : ∃ fd, FunD K d_Round_counted.name d_Round_counted.qual (defArgs s_Round_counted) (defBody s_Round_counted) (defScope s_Round_counted) (d_Round_counted.dvs K) (d_Round_counted.kws K) (He.fAd K d_Round_counted.at_) fd := T.c.def_ 76 (d := d_Round_counted)
theorem F_Round_many_through : ∃ fd, FunD K d_Round_many_through.name d_Round_many_through.qual (defArgs s_Round_many_through) (defBody s_Round_many_through) (defScope s_Round_many_through) (d_Round_many_through.dvs K) (d_Round_many_through.kws K) (He.fAd K d_Round_many_through.at_) fd := T.c.def_ 77 (d := d_Round_many_through)
theorem F_Round_do_body : ∃ fd, FunD K d_Round_do_body.name d_Round_do_body.qual (defArgs s_Round_do_body) (defBody s_Round_do_body) (defScope s_Round_do_body) (d_Round_do_body.dvs K) (d_Round_do_body.kws K) (He.fAd K d_Round_do_body.at_) fd := T.c.def_ 78 (d := d_Round_do_body)
theorem F_Round_count_body : ∃ fd, FunD K d_Round_count_body.name d_Round_count_body.qual (defArgs s_Round_count_body) (defBody s_Round_count_body) (defScope s_Round_count_body) (d_Round_count_body.dvs K) (d_Round_count_body.kws K) (He.fAd K d_Round_count_body.at_) fd := T.c.def_ 79 (d := d_Round_count_body)
theorem F_Builder___init__ : ∃ fd, FunD K d_Builder___init__.name d_Builder___init__.qual (defArgs s_Builder___init__) (defBody s_Builder___init__) (defScope s_Builder___init__) (d_Builder___init__.dvs K) (d_Builder___init__.kws K) (He.fAd K d_Builder___init__.at_) fd := T.c.def_ 80 (d := d_Builder___init__)
theorem F_Builder_body_of : ∃ fd, FunD K d_Builder_body_of.name d_Builder_body_of.qual (defArgs s_Builder_body_of) (defBody s_Builder_body_of) (defScope s_Builder_body_of) (d_Builder_body_of.dvs K) (d_Builder_body_of.kws K) (He.fAd K d_Builder_body_of.at_) fd := T.c.def_ 81 (d := d_Builder_body_of)
theorem F_Builder_node_of : ∃ fd, FunD K d_Builder_node_of.name d_Builder_node_of.qual (defArgs s_Builder_node_of) (defBody s_Builder_node_of) (defScope s_Builder_node_of) (d_Builder_node_of.dvs K) (d_Builder_node_of.kws K) (He.fAd K d_Builder_node_of.at_) fd := T.c.def_ 82 (d := d_Builder_node_of)
theorem F_Builder_is_deed : ∃ fd, FunD K d_Builder_is_deed.name d_Builder_is_deed.qual (defArgs s_Builder_is_deed) (defBody s_Builder_is_deed) (defScope s_Builder_is_deed) (d_Builder_is_deed.dvs K) (d_Builder_is_deed.kws K) (He.fAd K d_Builder_is_deed.at_) fd := T.c.def_ 83 (d := d_Builder_is_deed)
theorem F_Builder_is_test : ∃ fd, FunD K d_Builder_is_test.name d_Builder_is_test.qual (defArgs s_Builder_is_test) (defBody s_Builder_is_test) (defScope s_Builder_is_test) (d_Builder_is_test.dvs K) (d_Builder_is_test.kws K) (He.fAd K d_Builder_is_test.at_) fd := T.c.def_ 84 (d := d_Builder_is_test)
theorem F_Builder_is_round : ∃ fd, FunD K d_Builder_is_round.name d_Builder_is_round.qual (defArgs s_Builder_is_round) (defBody s_Builder_is_round) (defScope s_Builder_is_round) (d_Builder_is_round.dvs K) (d_Builder_is_round.kws K) (He.fAd K d_Builder_is_round.at_) fd := T.c.def_ 85 (d := d_Builder_is_round)
theorem F_Program___init__ : ∃ fd, FunD K d_Program___init__.name d_Program___init__.qual (defArgs s_Program___init__) (defBody s_Program___init__) (defScope s_Program___init__) (d_Program___init__.dvs K) (d_Program___init__.kws K) (He.fAd K d_Program___init__.at_) fd := T.c.def_ 86 (d := d_Program___init__)
theorem F_Program_frame : ∃ fd, FunD K d_Program_frame.name d_Program_frame.qual (defArgs s_Program_frame) (defBody s_Program_frame) (defScope s_Program_frame) (d_Program_frame.dvs K) (d_Program_frame.kws K) (He.fAd K d_Program_frame.at_) fd := T.c.def_ 87 (d := d_Program_frame)
theorem F_Program_parts : ∃ fd, FunD K d_Program_parts.name d_Program_parts.qual (defArgs s_Program_parts) (defBody s_Program_parts) (defScope s_Program_parts) (d_Program_parts.dvs K) (d_Program_parts.kws K) (He.fAd K d_Program_parts.at_) fd := T.c.def_ 88 (d := d_Program_parts)
theorem F_Program_size : ∃ fd, FunD K d_Program_size.name d_Program_size.qual (defArgs s_Program_size) (defBody s_Program_size) (defScope s_Program_size) (d_Program_size.dvs K) (d_Program_size.kws K) (He.fAd K d_Program_size.at_) fd := T.c.def_ 89 (d := d_Program_size)
theorem F_Program_told : ∃ fd, FunD K d_Program_told.name d_Program_told.qual (defArgs s_Program_told) (defBody s_Program_told) (defScope s_Program_told) (d_Program_told.dvs K) (d_Program_told.kws K) (He.fAd K d_Program_told.at_) fd := T.c.def_ 90 (d := d_Program_told)
end
theorem sc_own_words : FnScope [] [] (defScope s_own_words) := ⟨rfl, rfl, rfl, by decide +kernel, rfl, by decide +kernel, by decide +kernel⟩
theorem sc_is_whole : FnScope ["thing"] ["thing"] (defScope s_is_whole) := ⟨rfl, rfl, rfl, by decide +kernel, rfl, by decide +kernel, by decide +kernel⟩
theorem sc_is_within : FnScope ["thing", "low", "high"] ["thing", "low", "high"] (defScope s_is_within) := ⟨rfl, rfl, rfl, by decide +kernel, rfl, by decide +kernel, by decide +kernel⟩
theorem sc_are_all : FnScope ["text", "signs", "sign"] ["text", "signs"] (defScope s_are_all) := ⟨rfl, rfl, rfl, by decide +kernel, rfl, by decide +kernel, by decide +kernel⟩
theorem sc_is_name : FnScope ["thing"] ["thing"] (defScope s_is_name) := ⟨rfl, rfl, rfl, by decide +kernel, rfl, by decide +kernel, by decide +kernel⟩
theorem sc_need_box : FnScope ["thing", "wide", "name", "low", "high"] ["thing", "wide"] (defScope s_need_box) := ⟨rfl, rfl, rfl, by decide +kernel, rfl, by decide +kernel, by decide +kernel⟩
theorem sc_boxed : FnScope ["things", "few", "most", "wide", "known", "thing"] ["things", "few", "most", "wide", "known"] (defScope s_boxed) := ⟨rfl, rfl, rfl, by decide +kernel, rfl, by decide +kernel, by decide +kernel⟩
theorem sc_need_frame : FnScope ["thing"] ["thing"] (defScope s_need_frame) := ⟨rfl, rfl, rfl, by decide +kernel, rfl, by decide +kernel, by decide +kernel⟩
theorem sc_need_whole : FnScope ["thing"] ["thing"] (defScope s_need_whole) := ⟨rfl, rfl, rfl, by decide +kernel, rfl, by decide +kernel, by decide +kernel⟩
theorem sc_need_by : FnScope ["thing"] ["thing"] (defScope s_need_by) := ⟨rfl, rfl, rfl, by decide +kernel, rfl, by decide +kernel, by decide +kernel⟩
theorem sc_greatest_part : FnScope ["top", "by"] ["top", "by"] (defScope s_greatest_part) := ⟨rfl, rfl, rfl, by decide +kernel, rfl, by decide +kernel, by decide +kernel⟩
theorem sc_least_part : FnScope ["top", "by", "whole", "left"] ["top", "by"] (defScope s_least_part) := ⟨rfl, rfl, rfl, by decide +kernel, rfl, by decide +kernel, by decide +kernel⟩
theorem sc_common_of_two : FnScope ["one", "other"] ["one", "other"] (defScope s_common_of_two) := ⟨rfl, rfl, rfl, by decide +kernel, rfl, by decide +kernel, by decide +kernel⟩
theorem sc_common_part : FnScope ["numbers", "number", "found"] ["numbers"] (defScope s_common_part) := ⟨rfl, rfl, rfl, by decide +kernel, rfl, by decide +kernel, by decide +kernel⟩
theorem sc_least_alike : FnScope ["low", "by", "rest"] ["low", "by", "rest"] (defScope s_least_alike) := ⟨rfl, rfl, rfl, by decide +kernel, rfl, by decide +kernel, by decide +kernel⟩
theorem sc_many_alike : FnScope ["low", "high", "by", "rest", "first"] ["low", "high", "by", "rest"] (defScope s_many_alike) := ⟨rfl, rfl, rfl, by decide +kernel, rfl, by decide +kernel, by decide +kernel⟩
theorem sc_are_wholes : FnScope ["thing", "number"] ["thing"] (defScope s_are_wholes) := ⟨rfl, rfl, rfl, by decide +kernel, rfl, by decide +kernel, by decide +kernel⟩
theorem sc_is_sum : FnScope ["thing", "many"] ["thing", "many"] (defScope s_is_sum) := ⟨rfl, rfl, rfl, by decide +kernel, rfl, by decide +kernel, by decide +kernel⟩
theorem sc_need_sum : FnScope ["thing"] ["thing"] (defScope s_need_sum) := ⟨rfl, rfl, rfl, by decide +kernel, rfl, by decide +kernel, by decide +kernel⟩
theorem sc_need_worths : FnScope ["thing", "one"] ["thing", "one"] (defScope s_need_worths) := ⟨rfl, rfl, rfl, by decide +kernel, rfl, by decide +kernel, by decide +kernel⟩
theorem sc_worth_of : FnScope ["one", "point", "factor", "worth"] ["one", "point"] (defScope s_worth_of) := ⟨rfl, rfl, rfl, by decide +kernel, rfl, by decide +kernel, by decide +kernel⟩
theorem sc_is_of : FnScope ["frame", "opened", "one", "factor"] ["frame", "opened", "one"] (defScope s_is_of) := ⟨rfl, rfl, rfl, by decide +kernel, rfl, by decide +kernel, by decide +kernel⟩
theorem sc_is_pair : FnScope ["thing", "low"] ["thing", "low"] (defScope s_is_pair) := ⟨rfl, rfl, rfl, by decide +kernel, rfl, by decide +kernel, by decide +kernel⟩
theorem sc_is_test_wish : FnScope ["frame", "opened", "thing"] ["frame", "opened", "thing"] (defScope s_is_test_wish) := ⟨rfl, rfl, rfl, by decide +kernel, rfl, by decide +kernel, by decide +kernel⟩
theorem sc_are_groups : FnScope ["frame", "opened", "thing", "group", "bound"] ["frame", "opened", "thing"] (defScope s_are_groups) := ⟨rfl, rfl, rfl, by decide +kernel, rfl, by decide +kernel, by decide +kernel⟩
theorem sc_is_step : FnScope ["frame", "opened", "thing"] ["frame", "opened", "thing"] (defScope s_is_step) := ⟨rfl, rfl, rfl, by decide +kernel, rfl, by decide +kernel, by decide +kernel⟩
theorem sc__law_cell : FnScope ["_law_script", "_law_k"] ["_law_script", "_law_k"] (defScope s__law_cell) := ⟨rfl, rfl, rfl, by decide +kernel, rfl, by decide +kernel, by decide +kernel⟩
theorem sc__law_box : FnScope ["_law_cell_here"] ["_law_cell_here"] (defScope s__law_box) := ⟨rfl, rfl, rfl, by decide +kernel, rfl, by decide +kernel, by decide +kernel⟩
theorem sc__law_take : FnScope ["_law_box_here", "_law_many", "_law_digit", "_law_number"] ["_law_box_here", "_law_many"] (defScope s__law_take) := ⟨rfl, rfl, rfl, by decide +kernel, rfl, by decide +kernel, by decide +kernel⟩
theorem sc__law_names : FnScope ["_law_box_here", "_law_many", "_law_letters", "_law_way", "_law_first", "_law_some", "_law_stem", "_law_at", "_law_stride", "_law_signs", "_law_found", "_law_own", "_law_k", "_law_sign", "_law_name"] ["_law_box_here", "_law_many"] (defScope s__law_names) := ⟨rfl, rfl, rfl, by decide +kernel, rfl, by decide +kernel, by decide +kernel⟩
theorem sc__law_small_boxed : FnScope ["_law_box_here", "_law_names_here", "_law_wide", "_law_found", "_law_name", "_law_width", "_law_low"] ["_law_box_here", "_law_names_here", "_law_wide"] (defScope s__law_small_boxed) := ⟨rfl, rfl, rfl, by decide +kernel, rfl, by decide +kernel, by decide +kernel⟩
theorem sc__law_small_frame : FnScope ["_law_box_here", "_law_marks", "_law_numbers", "_law_names_here", "_law_wide"] ["_law_box_here"] (defScope s__law_small_frame) := ⟨rfl, rfl, rfl, by decide +kernel, rfl, by decide +kernel, by decide +kernel⟩
theorem sc__law_sum : FnScope ["_law_box_here", "_law_told", "_law_opened", "_law_many", "_law_row", "_law_at", "_law_factor"] ["_law_box_here", "_law_told", "_law_opened"] (defScope s__law_sum) := ⟨rfl, rfl, rfl, by decide +kernel, rfl, by decide +kernel, by decide +kernel⟩
theorem sc__law_group : FnScope ["_law_box_here", "_law_told", "_law_opened", "_law_k"] ["_law_box_here", "_law_told", "_law_opened"] (defScope s__law_group) := ⟨rfl, rfl, rfl, by decide +kernel, rfl, by decide +kernel, by decide +kernel⟩
theorem sc__law_groups : FnScope ["_law_box_here", "_law_told", "_law_opened", "_law_k"] ["_law_box_here", "_law_told", "_law_opened"] (defScope s__law_groups) := ⟨rfl, rfl, rfl, by decide +kernel, rfl, by decide +kernel, by decide +kernel⟩
theorem sc__law_step : FnScope ["_law_box_here", "_law_told", "_law_opened", "_law_by", "_law_row"] ["_law_box_here", "_law_told", "_law_opened"] (defScope s__law_step) := ⟨rfl, rfl, rfl, by decide +kernel, rfl, by decide +kernel, by decide +kernel⟩
theorem sc__law_wish : FnScope ["_law_box_here", "_law_told", "_law_opened"] ["_law_box_here", "_law_told", "_law_opened"] (defScope s__law_wish) := ⟨rfl, rfl, rfl, by decide +kernel, rfl, by decide +kernel, by decide +kernel⟩
theorem sc__law_nodes : FnScope ["_law_box_here", "_law_told", "_law_opened", "_law_deep", "_law_found", "_law_k", "_law_way", "_law_wishes", "_law_lows", "_law_highs", "_law_step_here", "_law_j"] ["_law_box_here", "_law_told", "_law_opened", "_law_deep"] (defScope s__law_nodes) := ⟨rfl, rfl, rfl, by decide +kernel, rfl, by decide +kernel, by decide +kernel⟩
theorem sc__law_size : FnScope ["_law_nodes_here", "_law_node"] ["_law_nodes_here"] (defScope s__law_size) := ⟨rfl, rfl, rfl, by decide +kernel, rfl, by decide +kernel, by decide +kernel⟩
theorem sc__law_great : FnScope ["_law_box_here", "_law_told", "_law_body", "_law_at", "_law_groups_here", "_law_wishes", "_law_turn"] ["_law_box_here", "_law_told"] (defScope s__law_great) := ⟨rfl, rfl, rfl, by decide +kernel, rfl, by decide +kernel, by decide +kernel⟩
theorem sc__law_right : FnScope ["_law_told", "_law_parts", "_law_frame", "_law_program", "_law_due"] ["_law_told", "_law_parts", "_law_frame", "_law_program"] (defScope s__law_right) := ⟨rfl, rfl, rfl, by decide +kernel, rfl, by decide +kernel, by decide +kernel⟩
theorem sc_law : FnScope ["_law_script", "_law_k", "_law_box_here", "_law_rows", "_law_turn", "_law_told", "_law_great_here", "_law_parts", "_law_frame", "_law_program"] ["_law_script"] (defScope s_law) := ⟨rfl, rfl, rfl, by decide +kernel, rfl, by decide +kernel, by decide +kernel⟩
theorem sc_Frame___init__ : FnScope ["self", "marks", "numbers", "known"] ["self", "marks", "numbers"] (defScope s_Frame___init__) := ⟨rfl, rfl, rfl, by decide +kernel, rfl, by decide +kernel, by decide +kernel⟩
theorem sc_Frame_all_boxed : FnScope ["self"] ["self"] (defScope s_Frame_all_boxed) := ⟨rfl, rfl, rfl, by decide +kernel, rfl, by decide +kernel, by decide +kernel⟩
theorem sc_Frame_marks : FnScope ["self", "name", "low", "high"] ["self"] (defScope s_Frame_marks) := ⟨rfl, rfl, rfl, by decide +kernel, rfl, by decide +kernel, by decide +kernel⟩
theorem sc_Frame_numbers : FnScope ["self", "name", "low", "high"] ["self"] (defScope s_Frame_numbers) := ⟨rfl, rfl, rfl, by decide +kernel, rfl, by decide +kernel, by decide +kernel⟩
theorem sc_Frame_names : FnScope ["self"] ["self"] (defScope s_Frame_names) := ⟨rfl, rfl, rfl, by decide +kernel, rfl, by decide +kernel, by decide +kernel⟩
theorem sc_Frame_place : FnScope ["self", "name"] ["self", "name"] (defScope s_Frame_place) := ⟨rfl, rfl, rfl, by decide +kernel, rfl, by decide +kernel, by decide +kernel⟩
theorem sc_Frame_box : FnScope ["self", "name"] ["self", "name"] (defScope s_Frame_box) := ⟨rfl, rfl, rfl, by decide +kernel, rfl, by decide +kernel, by decide +kernel⟩
theorem sc_Frame_size : FnScope ["self"] ["self"] (defScope s_Frame_size) := ⟨rfl, rfl, rfl, by decide +kernel, rfl, by decide +kernel, by decide +kernel⟩
theorem sc_Frame_sums_at : FnScope ["self", "first", "boxes"] ["self", "first", "boxes"] (defScope s_Frame_sums_at) := ⟨rfl, rfl, rfl, by decide +kernel, rfl, by decide +kernel, by decide +kernel⟩
theorem sc_Frame_mark_sums : FnScope ["self"] ["self"] (defScope s_Frame_mark_sums) := ⟨rfl, rfl, rfl, by decide +kernel, rfl, by decide +kernel, by decide +kernel⟩
theorem sc_Frame_number_sums : FnScope ["self"] ["self"] (defScope s_Frame_number_sums) := ⟨rfl, rfl, rfl, by decide +kernel, rfl, by decide +kernel, by decide +kernel⟩
theorem sc_Frame_is_point : FnScope ["self", "thing"] ["self", "thing"] (defScope s_Frame_is_point) := ⟨rfl, rfl, rfl, by decide +kernel, rfl, by decide +kernel, by decide +kernel⟩
theorem sc_Frame_is_worths : FnScope ["self", "thing"] ["self", "thing"] (defScope s_Frame_is_worths) := ⟨rfl, rfl, rfl, by decide +kernel, rfl, by decide +kernel, by decide +kernel⟩
theorem sc_Frame_told : FnScope ["self"] ["self"] (defScope s_Frame_told) := ⟨rfl, rfl, rfl, by decide +kernel, rfl, by decide +kernel, by decide +kernel⟩
theorem sc_Node___init__ : FnScope ["self", "body"] ["self", "body"] (defScope s_Node___init__) := ⟨rfl, rfl, rfl, by decide +kernel, rfl, by decide +kernel, by decide +kernel⟩
theorem sc_Node_do_body : FnScope ["self", "work", "node"] ["self", "work"] (defScope s_Node_do_body) := ⟨rfl, rfl, rfl, by decide +kernel, rfl, by decide +kernel, by decide +kernel⟩
theorem sc_Node_count_body : FnScope ["self", "worths", "node"] ["self", "worths"] (defScope s_Node_count_body) := ⟨rfl, rfl, rfl, by decide +kernel, rfl, by decide +kernel, by decide +kernel⟩
theorem sc_Deed___init__ : FnScope ["self", "word"] ["self", "word"] (defScope s_Deed___init__) := ⟨rfl, rfl, rfl, by decide +kernel, rfl, by decide +kernel, by decide +kernel⟩
theorem sc_Deed_done : FnScope ["self", "work"] ["self", "work"] (defScope s_Deed_done) := ⟨rfl, rfl, rfl, by decide +kernel, rfl, by decide +kernel, by decide +kernel⟩
theorem sc_Deed_counted : FnScope ["self", "worths"] ["self", "worths"] (defScope s_Deed_counted) := ⟨rfl, rfl, rfl, by decide +kernel, rfl, by decide +kernel, by decide +kernel⟩
theorem sc_Deed_do_body : FnScope ["self", "work", "node"] ["self", "work"] (defScope s_Deed_do_body) := ⟨rfl, rfl, rfl, by decide +kernel, rfl, by decide +kernel, by decide +kernel⟩
theorem sc_Deed_count_body : FnScope ["self", "worths", "node"] ["self", "worths"] (defScope s_Deed_count_body) := ⟨rfl, rfl, rfl, by decide +kernel, rfl, by decide +kernel, by decide +kernel⟩
theorem sc_Test___init__ : FnScope ["self", "tests", "body"] ["self", "tests", "body"] (defScope s_Test___init__) := ⟨rfl, rfl, rfl, by decide +kernel, rfl, by decide +kernel, by decide +kernel⟩
theorem sc_Test_holds_now : FnScope ["self", "worths", "wish", "worth"] ["self", "worths"] (defScope s_Test_holds_now) := ⟨rfl, rfl, rfl, by decide +kernel, rfl, by decide +kernel, by decide +kernel⟩
theorem sc_Test_done : FnScope ["self", "work"] ["self", "work"] (defScope s_Test_done) := ⟨rfl, rfl, rfl, by decide +kernel, rfl, by decide +kernel, by decide +kernel⟩
theorem sc_Test_counted : FnScope ["self", "worths"] ["self", "worths"] (defScope s_Test_counted) := ⟨rfl, rfl, rfl, by decide +kernel, rfl, by decide +kernel, by decide +kernel⟩
theorem sc_Test_do_body : FnScope ["self", "work", "node"] ["self", "work"] (defScope s_Test_do_body) := ⟨rfl, rfl, rfl, by decide +kernel, rfl, by decide +kernel, by decide +kernel⟩
theorem sc_Test_count_body : FnScope ["self", "worths", "node"] ["self", "worths"] (defScope s_Test_count_body) := ⟨rfl, rfl, rfl, by decide +kernel, rfl, by decide +kernel, by decide +kernel⟩
theorem sc_Round___init__ : FnScope ["self", "spot", "box", "told", "body"] ["self", "spot", "box", "told", "body"] (defScope s_Round___init__) := ⟨rfl, rfl, rfl, by decide +kernel, rfl, by decide +kernel, by decide +kernel⟩
theorem sc_Round_start : FnScope ["self", "worths", "found", "group", "parts", "by", "one"] ["self", "worths"] (defScope s_Round_start) := ⟨rfl, rfl, rfl, by decide +kernel, rfl, by decide +kernel, by decide +kernel⟩
theorem sc_Round_end : FnScope ["self", "worths", "found", "group", "parts", "by", "one"] ["self", "worths"] (defScope s_Round_end) := ⟨rfl, rfl, rfl, by decide +kernel, rfl, by decide +kernel, by decide +kernel⟩
theorem sc_Round_is_step : FnScope ["self", "worths", "number"] ["self", "worths", "number"] (defScope s_Round_is_step) := ⟨rfl, rfl, rfl, by decide +kernel, rfl, by decide +kernel, by decide +kernel⟩
theorem sc_Round_through : FnScope ["self", "worths", "number"] ["self", "worths"] (defScope s_Round_through) := ⟨rfl, rfl, rfl, by decide +kernel, rfl, by decide +kernel, by decide +kernel⟩
theorem sc_Round_done : FnScope ["self", "work", "before", "number"] ["self", "work"] (defScope s_Round_done) := ⟨rfl, rfl, rfl, by decide +kernel, rfl, by decide +kernel, by decide +kernel⟩
theorem sc_Round_counted : FnScope ["self", "worths", "total", "number", "node"] ["self", "worths"] (defScope s_Round_counted) := ⟨rfl, rfl, rfl, by decide +kernel, rfl, by decide +kernel, by decide +kernel⟩
theorem sc_Round_many_through : FnScope ["self", "worths", "start", "end", "first", "number"] ["self", "worths"] (defScope s_Round_many_through) := ⟨rfl, rfl, rfl, by decide +kernel, rfl, by decide +kernel, by decide +kernel⟩
theorem sc_Round_do_body : FnScope ["self", "work", "node"] ["self", "work"] (defScope s_Round_do_body) := ⟨rfl, rfl, rfl, by decide +kernel, rfl, by decide +kernel, by decide +kernel⟩
theorem sc_Round_count_body : FnScope ["self", "worths", "node"] ["self", "worths"] (defScope s_Round_count_body) := ⟨rfl, rfl, rfl, by decide +kernel, rfl, by decide +kernel, by decide +kernel⟩
theorem sc_Builder___init__ : FnScope ["self", "frame"] ["self", "frame"] (defScope s_Builder___init__) := ⟨rfl, rfl, rfl, by decide +kernel, rfl, by decide +kernel, by decide +kernel⟩
theorem sc_Builder_body_of : FnScope ["self", "things", "opened", "deep", "thing"] ["self", "things", "opened", "deep"] (defScope s_Builder_body_of) := ⟨rfl, rfl, rfl, by decide +kernel, rfl, by decide +kernel, by decide +kernel⟩
theorem sc_Builder_node_of : FnScope ["self", "thing", "opened", "deep", "body"] ["self", "thing", "opened", "deep"] (defScope s_Builder_node_of) := ⟨rfl, rfl, rfl, by decide +kernel, rfl, by decide +kernel, by decide +kernel⟩
theorem sc_Builder_is_deed : FnScope ["self", "thing", "opened"] ["self", "thing", "opened"] (defScope s_Builder_is_deed) := ⟨rfl, rfl, rfl, by decide +kernel, rfl, by decide +kernel, by decide +kernel⟩
theorem sc_Builder_is_test : FnScope ["self", "thing", "opened", "wish"] ["self", "thing", "opened"] (defScope s_Builder_is_test) := ⟨rfl, rfl, rfl, by decide +kernel, rfl, by decide +kernel, by decide +kernel⟩
theorem sc_Builder_is_round : FnScope ["self", "thing", "opened"] ["self", "thing", "opened"] (defScope s_Builder_is_round) := ⟨rfl, rfl, rfl, by decide +kernel, rfl, by decide +kernel, by decide +kernel⟩
theorem sc_Program___init__ : FnScope ["self", "frame", "parts", "builder"] ["self", "frame", "parts"] (defScope s_Program___init__) := ⟨rfl, rfl, rfl, by decide +kernel, rfl, by decide +kernel, by decide +kernel⟩
theorem sc_Program_frame : FnScope ["self"] ["self"] (defScope s_Program_frame) := ⟨rfl, rfl, rfl, by decide +kernel, rfl, by decide +kernel, by decide +kernel⟩
theorem sc_Program_parts : FnScope ["self"] ["self"] (defScope s_Program_parts) := ⟨rfl, rfl, rfl, by decide +kernel, rfl, by decide +kernel, by decide +kernel⟩
theorem sc_Program_size : FnScope ["self"] ["self"] (defScope s_Program_size) := ⟨rfl, rfl, rfl, by decide +kernel, rfl, by decide +kernel, by decide +kernel⟩
theorem sc_Program_told : FnScope ["self"] ["self"] (defScope s_Program_told) := ⟨rfl, rfl, rfl, by decide +kernel, rfl, by decide +kernel, by decide +kernel⟩
end H

set_option Elab.async false
set_option linter.all false
set_option maxRecDepth 100000
set_option maxHeartbeats 4000000
namespace H
open PySem PySem.Spec PyProof.Rows L2 PR
variable {P : Program} {w : World} {K : PySem.W.Frag} {mg : Str → Option Value} {base : Heap}

/-! ### what a thing is -/
def isWh (d : D) : Bool := isInt d && !isBl d
theorem isWh_int {d : D} (h : isWh d = true) : ∃ i, d = .int i := by
  cases d with
  | int i => exact ⟨i, rfl⟩
  | _ => cases h
@[simp] theorem isWh_i (i : Int) : isWh (.int i) = true := rfl
def intOf : D → Int
  | .int i => i
  | _ => 0
def isWi (d : D) (lo hi : Int) : Bool := isWh d && (decide (lo ≤ intOf d) && decide (intOf d ≤ hi))
theorem okD_plain {n : Nat} {d : D} (h : okD n d = true) : plainT d = true := by
  cases d with
  | ty _ => cases n <;> cases h
  | ins _ _ => cases n <;> cases h
  | obj _ => cases n <;> cases h
  | scr _ => cases n <;> cases h
  | _ => rfl
theorem okD_tup {n : Nat} {ds : List D} (h : okD n (.tup ds) = true) : ∃ m, n = m + 1 ∧ okA m ds = true := by
  cases n with
  | zero => cases h
  | succ m => exact ⟨m, rfl, h⟩
theorem okA_at : ∀ {n : Nat} {ds : List D} {i : Nat} {d : D}, okA n ds = true → ds[i]? = some d → okD n d = true
  | n, x :: r, 0, d, h, e => by
    cases e
    have h' : (okD n x && okA n r) = true := by cases n <;> exact h
    exact (Bool.and_eq_true_iff.mp h').1
  | n, x :: r, i + 1, d, h, e => by
    have h' : (okD n x && okA n r) = true := by cases n <;> exact h
    exact okA_at (i := i) (Bool.and_eq_true_iff.mp h').2 (by simpa using e)
def fewD (d : D) : Prop := ∀ ds, d = .tup ds → ds.length ≤ 100000
def allIn (t s : Str) : Bool := t.cps.toList.all fun c => decide (c ∈ s.cps.toList)
def ownW : List Str := Txt.split "mark number wish test round deed from to step all and divides" " "
def isNmS (t : Str) : Bool := (decide (0 < (t.length : Int)) && decide ((t.length : Int) ≤ 6)) && (allIn t "abcdefghijklmnopqrstuvwxyz" && !decide (t ∈ ownW))
/-- a sum, its worth -/
def sumD (s : List Int) : D := .tup (s.map .int)
def dot (s p : List Int) : Int := (List.zipWith (· * ·) s p).sum
def worthI (s p : List Int) : Int := s.getLastD 0 + dot s p
def areWh : D → Bool
  | .tup ds => ds.all isWh
  | _ => false
theorem areWh_sum (s : List Int) : areWh (sumD s) = true := by
  show (s.map D.int).all isWh = true
  rw [List.all_map]
  exact List.all_eq_true.mpr fun _ _ => rfl
theorem okD_sum (s : List Int) : okD 1 (sumD s) = true := by
  show okA 0 (s.map D.int) = true
  induction s with
  | nil => rfl
  | cons a r ih => exact Bool.and_eq_true_iff.mpr ⟨rfl, ih⟩
theorem few_sum {s : List Int} (h : s.length ≤ 100000) : fewD (sumD s) := fun ds e => by
  have e : D.tup (s.map D.int) = D.tup ds := e
  cases e
  rw [List.length_map]
  exact h
theorem map_zip (s p : List Int) (g : D → D) (hg : ∀ a b, g (.tup [.int a, .int b]) = .int (a * b)) : (zipD (s.map .int) (p.map .int)).map g = (List.zipWith (· * ·) s p).map .int := by
  apply List.ext_getElem?
  intro i
  rw [List.getElem?_map, List.getElem?_map]
  cases e : (zipD (s.map D.int) (p.map D.int))[i]? with
  | none =>
    have h := List.getElem?_eq_none_iff.mp e
    rw [zipD_len, List.length_map, List.length_map] at h
    have h2 : (List.zipWith (· * ·) s p)[i]? = none := List.getElem?_eq_none (by rw [List.length_zipWith]; exact h)
    rw [h2]
    rfl
  | some d =>
    obtain ⟨x, y, e1, e2, rfl⟩ := zipD_at e
    rw [List.getElem?_map] at e1 e2
    obtain ⟨a, f1, rfl⟩ := Option.map_eq_some_iff.mp e1
    obtain ⟨b, f2, rfl⟩ := Option.map_eq_some_iff.mp e2
    have h2 : (List.zipWith (· * ·) s p)[i]? = some (a * b) := by rw [List.getElem?_zipWith, f1, f2]
    rw [h2]
    simp [hg]
theorem atI_last {s : List D} {d : D} (h : s.getLast? = some d) : L2.atI s (-1) = some d := by
  unfold L2.atI L2.ixN
  rw [List.getLast?_eq_getElem?] at h
  have hn : 0 < s.length := by
    cases s with
    | nil => simp at h
    | cons _ _ => simp
  rw [if_neg (by decide), if_pos (by omega)]
  have e : ((s.length : Int) + -1).toNat = s.length - 1 := by omega
  simp only [Option.bind_some]
  rw [← h]
  congr 1
theorem atI_nat {s : List D} {i : Nat} {d : D} (h : s[i]? = some d) : L2.atI s (i : Int) = some d := by
  unfold L2.atI L2.ixN
  obtain ⟨h1, h2⟩ := List.getElem?_eq_some_iff.mp h
  rw [if_pos (by omega), if_pos (by omega)]
  simpa using h
def gcdL (ns : List Int) : Int := ((ns.foldl (fun a n => Nat.gcd a n.natAbs) 0 : Nat) : Int)
def lpart (t b : Int) : Int := t / b + PR.b2i (decide (0 < t % b))
def leastAl (lo by_ r : Int) : Int := lo + (r - lo) % by_
def manyAl (lo hi by_ r : Int) : Int := if hi < leastAl lo by_ r then 0 else (hi - leastAl lo by_ r) / by_ + 1

def sp_is_whole (K : PySem.W.Frag) : SpD := fun ds M Q => ∃ x : D, ds = [x] ∧ plainT x = true ∧ Q (.bl (isWh x)) M
theorem mono_is_whole {K : PySem.W.Frag} : ∀ ds M (Q Q' : D → Mem → Prop), (∀ d M', Q d M' → Q' d M') → sp_is_whole K ds M Q → sp_is_whole K ds M Q' := by
  rintro ds M Q Q' hQQ ⟨x, e, hx, q⟩
  exact ⟨x, e, hx, (by first | exact hQQ _ _ q | exact fun M' a b => hQQ _ _ (q M' a b) | exact fun d M' a => hQQ _ _ (q d M' a) | exact fun M' a => hQQ _ _ (q M' a) | exact fun M' a b c => hQQ _ _ (q M' a b c) | exact fun M' a b c d => hQQ _ _ (q M' a b c d) | exact fun M' a b c d e => hQQ _ _ (q M' a b c d e))⟩
theorem ok_is_whole (T : Top K mg) : Fg P w K mg base 1 "is_whole" ["thing"] [] (sp_is_whole K) := by
  obtain ⟨fd, F⟩ := F_is_whole T
  refine fg_mk (fn_ok F sc_is_whole (by rintro ds M Q ⟨_, rfl, _⟩; rfl) (by decide) fun cdv A outer s H E hr ds M Q hs => ?_) (g_is_whole T) F.kp (F.bindsN fun _ _ _ _ _ _ us hl => match us, hl with | [_], _ => rfl)
  obtain ⟨x, rfl, hx, q⟩ := hs
  have hnd := sc_is_whole.nd
  show Jss _ [some (x)] M (_ :: _) _
  exact j_ret (e_and (e_isi (.inl ⟨"int", rfl, rfl⟩) (clD_plain hx) (kit_int hx) (b_isinstance T) (a_cons (e_v 0 rfl) (a_cons (e_ty (b_int T) rfl) a_nil))) fun _ =>
    e_one (e_not (e_isi (.inl ⟨"bool", rfl, rfl⟩) (clD_plain hx) (kit_bool hx) (b_isinstance T) (a_cons (e_v 0 rfl) (a_cons (e_ty (b_bool T) rfl) a_nil))))) q
def sp_is_within (K : PySem.W.Frag) : SpD := fun ds M Q => ∃ x : D, ∃ lo hi : Int, ds = [x, .int lo, .int hi] ∧ plainT x = true ∧ Q (.bl (isWi x lo hi)) M
theorem mono_is_within {K : PySem.W.Frag} : ∀ ds M (Q Q' : D → Mem → Prop), (∀ d M', Q d M' → Q' d M') → sp_is_within K ds M Q → sp_is_within K ds M Q' := by
  rintro ds M Q Q' hQQ ⟨x, lo, hi, e, hx, q⟩
  exact ⟨x, lo, hi, e, hx, (by first | exact hQQ _ _ q | exact fun M' a b => hQQ _ _ (q M' a b) | exact fun d M' a => hQQ _ _ (q d M' a) | exact fun M' a => hQQ _ _ (q M' a) | exact fun M' a b c => hQQ _ _ (q M' a b c) | exact fun M' a b c d => hQQ _ _ (q M' a b c d) | exact fun M' a b c d e => hQQ _ _ (q M' a b c d e))⟩
theorem ok_is_within (T : Top K mg) : Fg P w K mg base 2 "is_within" ["thing", "low", "high"] [] (sp_is_within K) := by
  obtain ⟨fd, F⟩ := F_is_within T
  refine fg_mk (fn_ok F sc_is_within (by rintro ds M Q ⟨_, _, _, rfl, _⟩; rfl) (by decide) fun cdv A outer s H E hr ds M Q hs => ?_) (g_is_within T) F.kp (F.bindsN fun _ _ _ _ _ _ us hl => match us, hl with | [_, _, _], _ => rfl)
  obtain ⟨x, lo, hi, rfl, hx, q⟩ := hs
  have hnd := sc_is_within.nd
  show Jss _ [some (x), some (.int lo), some (.int hi)] M (_ :: _) _
  refine j_ret (e_and (e_call (ok_is_whole T) hr (a_cons (e_v 0 rfl) a_nil) fun Q q => ⟨x, rfl, hx, q⟩) fun hp => ?_) q
  obtain ⟨i, rfl⟩ := isWh_int hp
  exact e_one (e_chLL (e_v 1 rfl) (e_v 0 rfl) (e_v 2 rfl))
def sp_are_all (K : PySem.W.Frag) : SpD := fun ds M Q => ∃ t s : Str, ds = [.str t, .str s] ∧ Q (.bl (allIn t s)) M
theorem mono_are_all {K : PySem.W.Frag} : ∀ ds M (Q Q' : D → Mem → Prop), (∀ d M', Q d M' → Q' d M') → sp_are_all K ds M Q → sp_are_all K ds M Q' := by
  rintro ds M Q Q' hQQ ⟨t, s, e, q⟩
  exact ⟨t, s, e, (by first | exact hQQ _ _ q | exact fun M' a b => hQQ _ _ (q M' a b) | exact fun d M' a => hQQ _ _ (q d M' a) | exact fun M' a => hQQ _ _ (q M' a) | exact fun M' a b c => hQQ _ _ (q M' a b c) | exact fun M' a b c d => hQQ _ _ (q M' a b c d) | exact fun M' a b c d e => hQQ _ _ (q M' a b c d e))⟩
theorem ok_are_all (T : Top K mg) : Fg P w K mg base 1 "are_all" ["text", "signs"] [] (sp_are_all K) := by
  obtain ⟨fd, F⟩ := F_are_all T
  refine fg_mk (fn_ok F sc_are_all (by rintro ds M Q ⟨_, _, rfl, _⟩; rfl) (by decide) fun cdv A outer s H E hr ds M Q hs => ?_) (g_are_all T) F.kp (F.bindsN fun _ _ _ _ _ _ us hl => match us, hl with | [_, _], _ => rfl)
  obtain ⟨t, s, rfl, q⟩ := hs
  have hnd := sc_are_all.nd
  show Jss _ [some (.str t), some (.str s), none] M (_ :: _) _
  refine j_for (fun i Γ' M' => M' = M ∧ (∃ o, Γ' = [some (.str t), some (.str s), o]) ∧ ∀ j, j < i → ∀ c, t.cps.toList[j]? = some c → c ∈ s.cps.toList) (k_str (e_v 0 rfl)) (tg_n 2) ⟨rfl, ⟨_, rfl⟩, fun j h => absurd h (Nat.not_lt_zero _)⟩ ?_ ?_
  · rintro i x Γ' M' hx ⟨rfl, ⟨o, rfl⟩, hall⟩
    obtain ⟨c, hc, rfl⟩ := sgD_at hx
    refine ⟨_, rfl, j_if (id (t_ninSg (e_v 2 rfl) (e_v 1 rfl))) (fun h => j_ret (d := .bl false) e_bl ?_) (fun h => j_nil (j_nil ⟨rfl, ⟨_, rfl⟩, fun j hj c' hc' => ?_⟩))⟩
    · have e : allIn t s = false := by
        refine Bool.eq_false_iff.mpr fun z => ?_
        have h1 := List.all_eq_true.mp z c (List.mem_of_getElem? (i := i) (by simpa using hc))
        rw [h1] at h
        cases h
      rw [e] at q
      exact q
    · by_cases hji : j < i
      · exact hall j hji c' hc'
      · have e : j = i := by omega
        subst e
        have hc2 : t.cps.toList[j]? = some c := by simpa using hc
        rw [hc2] at hc'
        cases hc'
        simpa using h
  · rintro Γ' M' ⟨rfl, ⟨o, rfl⟩, hall⟩
    refine j_ret (d := .bl true) e_bl ?_
    have e : allIn t s = true := by
      refine List.all_eq_true.mpr fun c hc => ?_
      obtain ⟨j, hj, e⟩ := List.getElem_of_mem hc
      refine decide_eq_true (hall j ?_ c (by rw [List.getElem?_eq_getElem hj, e]))
      rw [sgD_len]
      simpa using hj
    rw [e] at q
    exact q
def sp_own_words (K : PySem.W.Frag) : SpD := fun ds M Q => ds = [] ∧ Q (.lst (ownW.map .str)) M
theorem mono_own_words {K : PySem.W.Frag} : ∀ ds M (Q Q' : D → Mem → Prop), (∀ d M', Q d M' → Q' d M') → sp_own_words K ds M Q → sp_own_words K ds M Q' := by
  rintro ds M Q Q' hQQ ⟨e, q⟩
  exact ⟨e, (by first | exact hQQ _ _ q | exact fun M' a b => hQQ _ _ (q M' a b) | exact fun d M' a => hQQ _ _ (q d M' a) | exact fun M' a => hQQ _ _ (q M' a) | exact fun M' a b c => hQQ _ _ (q M' a b c) | exact fun M' a b c d => hQQ _ _ (q M' a b c d) | exact fun M' a b c d e => hQQ _ _ (q M' a b c d e))⟩
theorem ok_own_words (T : Top K mg) : Fg P w K mg base 1 "own_words" [] [] (sp_own_words K) := by
  obtain ⟨fd, F⟩ := F_own_words T
  refine fg_mk (fn_ok F sc_own_words (by rintro ds M Q ⟨rfl, _⟩; rfl) (by decide) fun cdv A outer s H E hr ds M Q hs => ?_) (g_own_words T) F.kp (F.bindsN fun _ _ _ _ _ _ us hl => match us, hl with | [], _ => rfl)
  obtain ⟨rfl, q⟩ := hs
  have hnd := sc_own_words.nd
  show Jss _ [] M (_ :: _) _
  obtain ⟨tk, ho⟩ := t_OWN T
  exact j_ret (e_fz (n_split rfl (by decide +kernel) (e_gs ho) e_str)) q
def sp_is_name (K : PySem.W.Frag) : SpD := fun ds M Q => ∃ t : Str, ds = [.str t] ∧ t.length ≤ 1000 ∧ Q (.bl (isNmS t)) M
theorem mono_is_name {K : PySem.W.Frag} : ∀ ds M (Q Q' : D → Mem → Prop), (∀ d M', Q d M' → Q' d M') → sp_is_name K ds M Q → sp_is_name K ds M Q' := by
  rintro ds M Q Q' hQQ ⟨t, e, hz, q⟩
  exact ⟨t, e, hz, (by first | exact hQQ _ _ q | exact fun M' a b => hQQ _ _ (q M' a b) | exact fun d M' a => hQQ _ _ (q d M' a) | exact fun M' a => hQQ _ _ (q M' a) | exact fun M' a b c => hQQ _ _ (q M' a b c) | exact fun M' a b c d => hQQ _ _ (q M' a b c d) | exact fun M' a b c d e => hQQ _ _ (q M' a b c d e))⟩
theorem ok_is_name (T : Top K mg) : Fg P w K mg base 2 "is_name" ["thing"] [] (sp_is_name K) := by
  obtain ⟨fd, F⟩ := F_is_name T
  refine fg_mk (fn_ok F sc_is_name (by rintro ds M Q ⟨_, rfl, _⟩; rfl) (by decide) fun cdv A outer s H E hr ds M Q hs => ?_) (g_is_name T) F.kp (F.bindsN fun _ _ _ _ _ _ us hl => match us, hl with | [_], _ => rfl)
  obtain ⟨t, rfl, hz, q⟩ := hs
  have hnd := sc_is_name.nd
  show Jss _ [some (.str t)] M (_ :: _) _
  obtain ⟨tk, hl⟩ := i_LONGEST_NAME T
  obtain ⟨tk2, hL⟩ := t_LETTERS T
  have hz2 : t.length ≤ sizeLine := Nat.le_trans hz (by decide)
  refine j_if (t_w (w_or (t_not (t_val (e_isi (.inl ⟨"str", rfl, rfl⟩) (clD_plain rfl) (kit_str rfl) (b_isinstance T) (a_cons (e_v 0 rfl) (a_cons (e_ty (b_str T) rfl) a_nil))))) fun _ => w_one (t_not (id (t_chSL e_int (e_lenS hz2 (b_len T) (a_cons (e_v 0 rfl) a_nil)) (e_gi hl)))))) (fun h => ?_) (fun h => ?_)
  · have e : isNmS t = false := by
      unfold isNmS
      have h1 : (decide (0 < (t.length : Int)) && decide ((t.length : Int) ≤ 6)) = false := by
        cases e : (decide (0 < (t.length : Int)) && decide ((t.length : Int) ≤ 6)) with
        | false => rfl
        | true =>
          have h : (false || !(decide (0 < (t.length : Int)) && decide ((t.length : Int) ≤ 6))) = true := h
          rw [e] at h
          cases h
      rw [h1]
      rfl
    exact j_ret (d := .bl false) e_bl (by rw [← e]; exact q)
  · refine j_nil (j_ret (d := .bl (isNmS t)) (ev_is (e_and (e_call (ok_are_all T) hr (a_cons (e_v 0 rfl) (a_cons (e_gs hL) a_nil)) fun Q q => ⟨t, _, rfl, q⟩) fun _ => e_one (e_ninSs .fz (e_v 0 rfl) (e_call0 (ok_own_words T) hr fun Q q => ⟨rfl, q⟩))) ?_) q)
    have h1 : (decide (0 < (t.length : Int)) && decide ((t.length : Int) ≤ 6)) = true := by
      cases e : (decide (0 < (t.length : Int)) && decide ((t.length : Int) ≤ 6)) with
      | true => rfl
      | false =>
        have h : (false || !(decide (0 < (t.length : Int)) && decide ((t.length : Int) ≤ 6))) = false := h
        rw [e] at h
        cases h
    unfold isNmS
    rw [h1]
    rfl
/-! ### parts -/
def sp_need_whole (K : PySem.W.Frag) : SpD := fun ds M Q => ∃ i : Int, ds = [.int i] ∧ Q .non M
theorem mono_need_whole {K : PySem.W.Frag} : ∀ ds M (Q Q' : D → Mem → Prop), (∀ d M', Q d M' → Q' d M') → sp_need_whole K ds M Q → sp_need_whole K ds M Q' := by
  rintro ds M Q Q' hQQ ⟨i, e, q⟩
  exact ⟨i, e, (by first | exact hQQ _ _ q | exact fun M' a b => hQQ _ _ (q M' a b) | exact fun d M' a => hQQ _ _ (q d M' a) | exact fun M' a => hQQ _ _ (q M' a) | exact fun M' a b c => hQQ _ _ (q M' a b c) | exact fun M' a b c d => hQQ _ _ (q M' a b c d) | exact fun M' a b c d e => hQQ _ _ (q M' a b c d e))⟩
theorem ok_need_whole (T : Top K mg) : Fg P w K mg base 2 "need_whole" ["thing"] [] (sp_need_whole K) := by
  obtain ⟨fd, F⟩ := F_need_whole T
  refine fg_mk (fn_ok F sc_need_whole (by rintro ds M Q ⟨_, rfl, _⟩; rfl) (by decide) fun cdv A outer s H E hr ds M Q hs => ?_) (g_need_whole T) F.kp (F.bindsN fun _ _ _ _ _ _ us hl => match us, hl with | [_], _ => rfl)
  obtain ⟨i, rfl, q⟩ := hs
  have hnd := sc_need_whole.nd
  show Jss _ [some (.int i)] M (_ :: _) _
  exact j_if (t_not (t_val (e_call (ok_is_whole T) hr (a_cons (e_v 0 rfl) a_nil) fun Q q => ⟨_, rfl, rfl, q⟩))) (fun h => by cases h) (fun _ => j_nil (j_nil q))
def sp_need_by (K : PySem.W.Frag) : SpD := fun ds M Q => ∃ i : Int, ds = [.int i] ∧ 1 ≤ i ∧ Q .non M
theorem mono_need_by {K : PySem.W.Frag} : ∀ ds M (Q Q' : D → Mem → Prop), (∀ d M', Q d M' → Q' d M') → sp_need_by K ds M Q → sp_need_by K ds M Q' := by
  rintro ds M Q Q' hQQ ⟨i, e, hi, q⟩
  exact ⟨i, e, hi, (by first | exact hQQ _ _ q | exact fun M' a b => hQQ _ _ (q M' a b) | exact fun d M' a => hQQ _ _ (q d M' a) | exact fun M' a => hQQ _ _ (q M' a) | exact fun M' a b c => hQQ _ _ (q M' a b c) | exact fun M' a b c d => hQQ _ _ (q M' a b c d) | exact fun M' a b c d e => hQQ _ _ (q M' a b c d e))⟩
theorem ok_need_by (T : Top K mg) : Fg P w K mg base 3 "need_by" ["thing"] [] (sp_need_by K) := by
  obtain ⟨fd, F⟩ := F_need_by T
  refine fg_mk (fn_ok F sc_need_by (by rintro ds M Q ⟨_, rfl, _⟩; rfl) (by decide) fun cdv A outer s H E hr ds M Q hs => ?_) (g_need_by T) F.kp (F.bindsN fun _ _ _ _ _ _ us hl => match us, hl with | [_], _ => rfl)
  obtain ⟨i, rfl, hi, q⟩ := hs
  have hnd := sc_need_by.nd
  show Jss _ [some (.int i)] M (_ :: _) _
  refine j_expr (d := .non) (e_call (ok_need_whole T) hr (a_cons (e_v 0 rfl) a_nil) fun Q q => ⟨_, rfl, q⟩) ?_
  exact j_if (id (t_lt (e_v 0 rfl) e_int)) (fun h => absurd (of_decide_eq_true h) (by omega)) (fun _ => j_nil (j_nil q))
def sp_greatest_part (K : PySem.W.Frag) : SpD := fun ds M Q => ∃ i j : Int, ds = [.int i, .int j] ∧ 1 ≤ j ∧ j < 1000000 ∧ Q (.int (i / j)) M
theorem mono_greatest_part {K : PySem.W.Frag} : ∀ ds M (Q Q' : D → Mem → Prop), (∀ d M', Q d M' → Q' d M') → sp_greatest_part K ds M Q → sp_greatest_part K ds M Q' := by
  rintro ds M Q Q' hQQ ⟨i, j, e, hj, hj2, q⟩
  exact ⟨i, j, e, hj, hj2, (by first | exact hQQ _ _ q | exact fun M' a b => hQQ _ _ (q M' a b) | exact fun d M' a => hQQ _ _ (q d M' a) | exact fun M' a => hQQ _ _ (q M' a) | exact fun M' a b c => hQQ _ _ (q M' a b c) | exact fun M' a b c d => hQQ _ _ (q M' a b c d) | exact fun M' a b c d e => hQQ _ _ (q M' a b c d e))⟩
theorem ok_greatest_part (T : Top K mg) : Fg P w K mg base 4 "greatest_part" ["top", "by"] [] (sp_greatest_part K) := by
  obtain ⟨fd, F⟩ := F_greatest_part T
  refine fg_mk (fn_ok F sc_greatest_part (by rintro ds M Q ⟨_, _, rfl, _⟩; rfl) (by decide) fun cdv A outer s H E hr ds M Q hs => ?_) (g_greatest_part T) F.kp (F.bindsN fun _ _ _ _ _ _ us hl => match us, hl with | [_, _], _ => rfl)
  obtain ⟨i, j, rfl, hj, hj2, q⟩ := hs
  have hnd := sc_greatest_part.nd
  show Jss _ [some (.int i), some (.int j)] M (_ :: _) _
  refine j_expr (d := .non) (e_call (ok_need_whole T) (hr.mono (by decide)) (a_cons (e_v 0 rfl) a_nil) fun Q q => ⟨_, rfl, q⟩) ?_
  refine j_expr (d := .non) (e_call (ok_need_by T) hr (a_cons (e_v 1 rfl) a_nil) fun Q q => ⟨_, rfl, hj, q⟩) ?_
  exact j_ret (e_fdiv ⟨by omega, by omega⟩ (e_v 0 rfl) (e_v 1 rfl)) q
def sp_least_part (K : PySem.W.Frag) : SpD := fun ds M Q => ∃ i j : Int, ds = [.int i, .int j] ∧ 1 ≤ j ∧ j < 1000000 ∧ Q (.int (lpart i j)) M
theorem mono_least_part {K : PySem.W.Frag} : ∀ ds M (Q Q' : D → Mem → Prop), (∀ d M', Q d M' → Q' d M') → sp_least_part K ds M Q → sp_least_part K ds M Q' := by
  rintro ds M Q Q' hQQ ⟨i, j, e, hj, hj2, q⟩
  exact ⟨i, j, e, hj, hj2, (by first | exact hQQ _ _ q | exact fun M' a b => hQQ _ _ (q M' a b) | exact fun d M' a => hQQ _ _ (q d M' a) | exact fun M' a => hQQ _ _ (q M' a) | exact fun M' a b c => hQQ _ _ (q M' a b c) | exact fun M' a b c d => hQQ _ _ (q M' a b c d) | exact fun M' a b c d e => hQQ _ _ (q M' a b c d e))⟩
theorem ok_least_part (T : Top K mg) : Fg P w K mg base 4 "least_part" ["top", "by"] [] (sp_least_part K) := by
  obtain ⟨fd, F⟩ := F_least_part T
  refine fg_mk (fn_ok F sc_least_part (by rintro ds M Q ⟨_, _, rfl, _⟩; rfl) (by decide) fun cdv A outer s H E hr ds M Q hs => ?_) (g_least_part T) F.kp (F.bindsN fun _ _ _ _ _ _ us hl => match us, hl with | [_, _], _ => rfl)
  obtain ⟨i, j, rfl, hj, hj2, q⟩ := hs
  have hnd := sc_least_part.nd
  show Jss _ [some (.int i), some (.int j), none, none] M (_ :: _) _
  refine j_expr (d := .non) (e_call (ok_need_whole T) (hr.mono (by decide)) (a_cons (e_v 0 rfl) a_nil) fun Q q => ⟨_, rfl, q⟩) ?_
  refine j_expr (d := .non) (e_call (ok_need_by T) hr (a_cons (e_v 1 rfl) a_nil) fun Q q => ⟨_, rfl, hj, q⟩) ?_
  refine j_unpack (e_divmod ⟨by omega, by omega⟩ (b_divmod T) (a_cons (e_v 0 rfl) (a_cons (e_v 1 rfl) a_nil))) (tg_tup (tgs_cons (tg_n 2) (tgs_cons (tg_n 3) tgs_nil))) rfl ?_
  exact j_ret (e_add (e_v 2 rfl) (e_intB (b_int T) (a_cons (e_gt (e_v 3 rfl) e_int) a_nil))) q
def sp_common_of_two (K : PySem.W.Frag) : SpD := fun ds M Q => ∃ i j : Int, ds = [.int i, .int j] ∧ 0 ≤ i ∧ 0 ≤ j ∧ Q (.int (Nat.gcd i.natAbs j.natAbs : Nat)) M
theorem mono_common_of_two {K : PySem.W.Frag} : ∀ ds M (Q Q' : D → Mem → Prop), (∀ d M', Q d M' → Q' d M') → sp_common_of_two K ds M Q → sp_common_of_two K ds M Q' := by
  rintro ds M Q Q' hQQ ⟨i, j, e, hi, hj, q⟩
  exact ⟨i, j, e, hi, hj, (by first | exact hQQ _ _ q | exact fun M' a b => hQQ _ _ (q M' a b) | exact fun d M' a => hQQ _ _ (q d M' a) | exact fun M' a => hQQ _ _ (q M' a) | exact fun M' a b c => hQQ _ _ (q M' a b c) | exact fun M' a b c d => hQQ _ _ (q M' a b c d) | exact fun M' a b c d e => hQQ _ _ (q M' a b c d e))⟩
theorem ok_common_of_two (T : Top K mg) : Fg P w K mg base 1 "common_of_two" ["one", "other"] [] (sp_common_of_two K) := by
  obtain ⟨fd, F⟩ := F_common_of_two T
  refine fg_mk (fn_ok F sc_common_of_two (by rintro ds M Q ⟨_, _, rfl, _⟩; rfl) (by decide) fun cdv A outer s H E hr ds M Q hs => ?_) (g_common_of_two T) F.kp (F.bindsN fun _ _ _ _ _ _ us hl => match us, hl with | [_, _], _ => rfl)
  obtain ⟨i, j, rfl, hi, hj, q⟩ := hs
  have hnd := sc_common_of_two.nd
  show Jss _ [some (.int i), some (.int j)] M (_ :: _) _
  refine j_while (fun m Γ' M' => ∃ a b : Int, M' = M ∧ Γ' = [some (.int a), some (.int b)] ∧ 0 ≤ a ∧ 0 ≤ b ∧ m = b.toNat ∧ Nat.gcd a.natAbs b.natAbs = Nat.gcd i.natAbs j.natAbs) _ ⟨i, j, rfl, rfl, hi, hj, rfl, rfl⟩ ?_
  rintro m Γ' M' ⟨a, b, rfl, rfl, ha, hb, rfl, hg⟩
  refine ⟨_, _, id (t_gt (e_v 1 rfl) e_int), fun h => ?_, fun h => ?_⟩
  · have h0 := of_decide_eq_true h
    refine j_par 0 1 (a_cons (e_v 1 rfl) (a_cons (e_mod h0 (e_v 0 rfl) (e_v 1 rfl)) a_nil)) (j_nil ?_)
    have h1 := Int.emod_nonneg a (b := b) (by omega)
    have h2 := Int.emod_lt_of_pos a h0
    refine ⟨(a % b).toNat, by omega, b, a % b, rfl, rfl, hb, h1, rfl, ?_⟩
    rw [← hg, Int.natAbs_emod_of_nonneg ha, Nat.gcd_comm, ← Nat.gcd_rec, Nat.gcd_comm]
  · have h0 := of_decide_eq_false h
    have e : b = 0 := by omega
    subst e
    refine j_ret (d := .int a) (e_v 0 rfl) ?_
    have e2 : ((Nat.gcd i.natAbs j.natAbs : Nat) : Int) = a := by
      rw [← hg]
      simp
      omega
    rw [e2] at q
    exact q
def sp_common_part (K : PySem.W.Frag) : SpD := fun ds M Q => ∃ ns : List Int, ds = [.tup (ns.map .int)] ∧ ns.length ≤ 100000 ∧ Q (.int (gcdL ns)) M
theorem mono_common_part {K : PySem.W.Frag} : ∀ ds M (Q Q' : D → Mem → Prop), (∀ d M', Q d M' → Q' d M') → sp_common_part K ds M Q → sp_common_part K ds M Q' := by
  rintro ds M Q Q' hQQ ⟨ns, e, hl, q⟩
  exact ⟨ns, e, hl, (by first | exact hQQ _ _ q | exact fun M' a b => hQQ _ _ (q M' a b) | exact fun d M' a => hQQ _ _ (q d M' a) | exact fun M' a => hQQ _ _ (q M' a) | exact fun M' a b c => hQQ _ _ (q M' a b c) | exact fun M' a b c d => hQQ _ _ (q M' a b c d) | exact fun M' a b c d e => hQQ _ _ (q M' a b c d e))⟩
theorem ok_common_part (T : Top K mg) : Fg P w K mg base 2 "common_part" ["numbers"] [] (sp_common_part K) := by
  obtain ⟨fd, F⟩ := F_common_part T
  refine fg_mk (fn_ok F sc_common_part (by rintro ds M Q ⟨_, rfl, _⟩; rfl) (by decide) fun cdv A outer s H E hr ds M Q hs => ?_) (g_common_part T) F.kp (F.bindsN fun _ _ _ _ _ _ us hl => match us, hl with | [_], _ => rfl)
  obtain ⟨ns, rfl, hl, q⟩ := hs
  have hnd := sc_common_part.nd
  show Jss _ [some (.tup (ns.map .int)), none, none] M (_ :: _) _
  refine j_if (t_not (t_val (e_isiT (cs := ["list", "tuple"]) (clD_plain rfl) (kit_lt rfl) (b_isinstance T) (a_cons (e_v 0 rfl) (a_cons (e_tup (a_cons (e_ty (b_list T) rfl) (a_cons (e_ty (b_tuple T) rfl) a_nil))) a_nil))))) (fun h => by cases h) (fun _ => j_nil ?_)
  have at_ : ∀ (i : Nat) (x : D), (ns.map D.int)[i]? = some x → ∃ n, ns[i]? = some n ∧ x = .int n := fun i x hx => by
    rw [List.getElem?_map] at hx
    obtain ⟨n, h1, h2⟩ := Option.map_eq_some_iff.mp hx
    exact ⟨n, h1, h2.symm⟩
  refine j_for (fun i Γ' M' => M' = M ∧ ∃ o, Γ' = [some (.tup (ns.map .int)), o, none]) (k_tup (e_v 0 rfl)) (tg_n 1) ⟨rfl, _, rfl⟩ ?_ ?_
  · rintro i x Γ' M' hx ⟨rfl, o, rfl⟩
    obtain ⟨n, hn, rfl⟩ := at_ i x hx
    exact ⟨_, rfl, j_if (t_not (t_val (e_call (ok_is_whole T) hr (a_cons (e_v 1 rfl) a_nil) fun Q q => ⟨_, rfl, rfl, q⟩))) (fun h => by cases h) (fun _ => j_nil (j_nil ⟨rfl, _, rfl⟩))⟩
  rintro Γ' M' ⟨rfl, o, rfl⟩
  refine j_set 2 (d := .int 0) e_int ?_
  refine j_for (fun i Γ' M'' => M'' = M' ∧ ∃ o, Γ' = [some (.tup (ns.map .int)), o, some (.int (((ns.take i).foldl (fun a n => Nat.gcd a n.natAbs) 0 : Nat) : Int))]) (k_tup (e_v 0 rfl)) (tg_n 1) ⟨rfl, _, rfl⟩ ?_ ?_
  · rintro i x Γ' M' hx ⟨rfl, o, rfl⟩
    obtain ⟨n, hn, rfl⟩ := at_ i x hx
    have e1 : (if n < 0 then -n else n) = (n.natAbs : Int) := by omega
    have e2 : (ns.take (i + 1)).foldl (fun a n => Nat.gcd a n.natAbs) 0 = Nat.gcd ((ns.take i).foldl (fun a n => Nat.gcd a n.natAbs) 0) n.natAbs := by
      rw [List.take_succ, hn, Option.toList_some, List.foldl_append]
      rfl
    refine ⟨_, rfl, j_set 2 (e_call (d := .int ((Nat.gcd ((ns.take i).foldl (fun a n => Nat.gcd a n.natAbs) 0) n.natAbs : Nat) : Int)) (ok_common_of_two T) hr (a_cons (e_v 2 rfl) (a_cons (e_abs (b_abs T) (a_cons (e_v 1 rfl) a_nil)) a_nil)) fun Q q => ?_) (j_nil ⟨rfl, _, by rw [e2]; rfl⟩)⟩
    · refine ⟨_, _, rfl, by omega, by split <;> omega, ?_⟩
      rw [e1]
      simpa using q
  rintro Γ' M'' ⟨rfl, o, rfl⟩
  refine j_ret (e_v 2 rfl) ?_
  rw [List.length_map, List.take_length]
  exact q
def sp_least_alike (K : PySem.W.Frag) : SpD := fun ds M Q => ∃ lo by_ r : Int, ds = [.int lo, .int by_, .int r] ∧ 1 ≤ by_ ∧ Q (.int (leastAl lo by_ r)) M
theorem mono_least_alike {K : PySem.W.Frag} : ∀ ds M (Q Q' : D → Mem → Prop), (∀ d M', Q d M' → Q' d M') → sp_least_alike K ds M Q → sp_least_alike K ds M Q' := by
  rintro ds M Q Q' hQQ ⟨lo, by_, r, e, hb, q⟩
  exact ⟨lo, by_, r, e, hb, (by first | exact hQQ _ _ q | exact fun M' a b => hQQ _ _ (q M' a b) | exact fun d M' a => hQQ _ _ (q d M' a) | exact fun M' a => hQQ _ _ (q M' a) | exact fun M' a b c => hQQ _ _ (q M' a b c) | exact fun M' a b c d => hQQ _ _ (q M' a b c d) | exact fun M' a b c d e => hQQ _ _ (q M' a b c d e))⟩
theorem ok_least_alike (T : Top K mg) : Fg P w K mg base 4 "least_alike" ["low", "by", "rest"] [] (sp_least_alike K) := by
  obtain ⟨fd, F⟩ := F_least_alike T
  refine fg_mk (fn_ok F sc_least_alike (by rintro ds M Q ⟨_, _, _, rfl, _⟩; rfl) (by decide) fun cdv A outer s H E hr ds M Q hs => ?_) (g_least_alike T) F.kp (F.bindsN fun _ _ _ _ _ _ us hl => match us, hl with | [_, _, _], _ => rfl)
  obtain ⟨lo, by_, r, rfl, hb, q⟩ := hs
  have hnd := sc_least_alike.nd
  show Jss _ [some (.int lo), some (.int by_), some (.int r)] M (_ :: _) _
  refine j_expr (d := .non) (e_call (ok_need_whole T) (hr.mono (by decide)) (a_cons (e_v 0 rfl) a_nil) fun Q q => ⟨_, rfl, q⟩) ?_
  refine j_expr (d := .non) (e_call (ok_need_by T) hr (a_cons (e_v 1 rfl) a_nil) fun Q q => ⟨_, rfl, hb, q⟩) ?_
  refine j_expr (d := .non) (e_call (ok_need_whole T) (hr.mono (by decide)) (a_cons (e_v 2 rfl) a_nil) fun Q q => ⟨_, rfl, q⟩) ?_
  exact j_ret (e_add (e_v 0 rfl) (e_mod (by omega) (e_sub (e_v 2 rfl) (e_v 0 rfl)) (e_v 1 rfl))) q
def sp_many_alike (K : PySem.W.Frag) : SpD := fun ds M Q => ∃ lo hi by_ r : Int, ds = [.int lo, .int hi, .int by_, .int r] ∧ 1 ≤ by_ ∧ by_ < 1000000 ∧ Q (.int (manyAl lo hi by_ r)) M
theorem mono_many_alike {K : PySem.W.Frag} : ∀ ds M (Q Q' : D → Mem → Prop), (∀ d M', Q d M' → Q' d M') → sp_many_alike K ds M Q → sp_many_alike K ds M Q' := by
  rintro ds M Q Q' hQQ ⟨lo, hi, by_, r, e, hb, hb2, q⟩
  exact ⟨lo, hi, by_, r, e, hb, hb2, (by first | exact hQQ _ _ q | exact fun M' a b => hQQ _ _ (q M' a b) | exact fun d M' a => hQQ _ _ (q d M' a) | exact fun M' a => hQQ _ _ (q M' a) | exact fun M' a b c => hQQ _ _ (q M' a b c) | exact fun M' a b c d => hQQ _ _ (q M' a b c d) | exact fun M' a b c d e => hQQ _ _ (q M' a b c d e))⟩
theorem ok_many_alike (T : Top K mg) : Fg P w K mg base 5 "many_alike" ["low", "high", "by", "rest"] [] (sp_many_alike K) := by
  obtain ⟨fd, F⟩ := F_many_alike T
  refine fg_mk (fn_ok F sc_many_alike (by rintro ds M Q ⟨_, _, _, _, rfl, _⟩; rfl) (by decide) fun cdv A outer s H E hr ds M Q hs => ?_) (g_many_alike T) F.kp (F.bindsN fun _ _ _ _ _ _ us hl => match us, hl with | [_, _, _, _], _ => rfl)
  obtain ⟨lo, hi, by_, r, rfl, hb, hb2, q⟩ := hs
  have hnd := sc_many_alike.nd
  show Jss _ [some (.int lo), some (.int hi), some (.int by_), some (.int r), none] M (_ :: _) _
  refine j_expr (d := .non) (e_call (ok_need_whole T) (hr.mono (by decide)) (a_cons (e_v 0 rfl) a_nil) fun Q q => ⟨_, rfl, q⟩) ?_
  refine j_expr (d := .non) (e_call (ok_need_whole T) (hr.mono (by decide)) (a_cons (e_v 1 rfl) a_nil) fun Q q => ⟨_, rfl, q⟩) ?_
  refine j_set 4 (e_call (d := .int (leastAl lo by_ r)) (ok_least_alike T) hr (a_cons (e_v 0 rfl) (a_cons (e_v 2 rfl) (a_cons (e_v 3 rfl) a_nil))) fun Q q => ⟨_, _, _, rfl, hb, q⟩) ?_
  refine j_if (id (t_gt (e_v 4 rfl) (e_v 1 rfl))) (fun h => ?_) (fun h => j_nil ?_)
  · refine j_ret (d := .int 0) e_int ?_
    unfold manyAl at q
    rw [if_pos (of_decide_eq_true h)] at q
    exact q
  · refine j_ret (e_add (e_fdiv ⟨by omega, by omega⟩ (e_sub (e_v 1 rfl) (e_v 4 rfl)) (e_v 2 rfl)) e_int) ?_
    unfold manyAl at q
    rw [if_neg (of_decide_eq_false h)] at q
    exact q
/-! ### sums -/
def sp_are_wholes (K : PySem.W.Frag) : SpD := fun ds M Q => ∃ x : D, ∃ n : Nat, ds = [x] ∧ okD n x = true ∧ fewD x ∧ Q (.bl (areWh x)) M
theorem mono_are_wholes {K : PySem.W.Frag} : ∀ ds M (Q Q' : D → Mem → Prop), (∀ d M', Q d M' → Q' d M') → sp_are_wholes K ds M Q → sp_are_wholes K ds M Q' := by
  rintro ds M Q Q' hQQ ⟨x, n, e, hx, hf, q⟩
  exact ⟨x, n, e, hx, hf, (by first | exact hQQ _ _ q | exact fun M' a b => hQQ _ _ (q M' a b) | exact fun d M' a => hQQ _ _ (q d M' a) | exact fun M' a => hQQ _ _ (q M' a) | exact fun M' a b c => hQQ _ _ (q M' a b c) | exact fun M' a b c d => hQQ _ _ (q M' a b c d) | exact fun M' a b c d e => hQQ _ _ (q M' a b c d e))⟩
theorem ok_are_wholes (T : Top K mg) : Fg P w K mg base 2 "are_wholes" ["thing"] [] (sp_are_wholes K) := by
  obtain ⟨fd, F⟩ := F_are_wholes T
  refine fg_mk (fn_ok F sc_are_wholes (by rintro ds M Q ⟨_, _, rfl, _⟩; rfl) (by decide) fun cdv A outer s H E hr ds M Q hs => ?_) (g_are_wholes T) F.kp (F.bindsN fun _ _ _ _ _ _ us hl => match us, hl with | [_], _ => rfl)
  obtain ⟨x, n, rfl, hx, hf, q⟩ := hs
  have hnd := sc_are_wholes.nd
  show Jss _ [some (x), none] M (_ :: _) _
  have pl := okD_plain hx
  refine j_ret (d := .bl (areWh x)) (ev_is (e_and (r := areWh x) (e_isi (.inl ⟨"tuple", rfl, rfl⟩) (clD_plain pl) (kit_tup pl) (b_isinstance T) (a_cons (e_v 0 rfl) (a_cons (e_ty (b_tuple T) rfl) a_nil))) fun hp => e_one ?_) ?_) q
  · cases x with
    | tup xs =>
      obtain ⟨m, rfl, ha⟩ := okD_tup hx
      refine ev_is (e_all (bs := xs.map isWh) .fz (b_all T) (a_cons (ev_is (e_fz (n_lcP (own := [("number", 1)]) (fun d => .bl (isWh d)) (k_tup (e_v 0 rfl)) (fun s H C cl fp => tg_n 1) (by decide) (fun i x hx => ⟨_, rfl, fun N hN s H C cl fp => e_call (ok_is_whole T) hr (a_cons (e_v 1 rfl) a_nil) fun Q q => ⟨_, rfl, okD_plain (okA_at ha hx), q⟩⟩) (hf _ rfl))) (by rw [List.map_map]; rfl)) a_nil)) ?_
      simp [areWh]
    | _ => cases hp
  · cases x <;> rfl
end H

set_option Elab.async false
set_option linter.all false
set_option maxRecDepth 100000
set_option maxHeartbeats 4000000
namespace H
open PySem PySem.Spec PyProof.Rows L2 PR
variable {P : Program} {w : World} {K : PySem.W.Frag} {mg : Str → Option Value} {base : Heap}

def lenD : D → Int
  | .tup ds => ds.length
  | _ => 0
def isSm (x : D) (m : Int) : Bool := areWh x && decide (lenD x = m + 1)
theorem isSm_sum {s : List Int} {m : Int} (h : (s.length : Int) = m + 1) : isSm (sumD s) m = true := by
  unfold isSm
  rw [areWh_sum]
  exact decide_eq_true (by show ((s.map D.int).length : Int) = _; rw [List.length_map]; exact h)
theorem areWh_tup {x : D} (h : areWh x = true) : ∃ s : List Int, x = sumD s := by
  cases x with
  | tup ds =>
    have h : ds.all isWh = true := h
    refine ⟨ds.map intOf, ?_⟩
    unfold sumD
    congr 1
    induction ds with
    | nil => rfl
    | cons d r ih =>
      simp only [List.all_cons, Bool.and_eq_true] at h
      obtain ⟨i, rfl⟩ := isWh_int h.1
      simp only [List.map_cons]
      rw [← ih h.2 h.2]
      rfl
  | _ => cases h
theorem len_sum (s : List Int) : (s.map D.int).length = s.length := List.length_map ..
theorem last_sum {s : List Int} (h : 1 ≤ s.length) : L2.atI (s.map D.int) (-1) = some (.int (s.getLastD 0)) := by
  refine atI_last ?_
  rw [List.getLast?_map]
  cases s with
  | nil => cases h
  | cons a r => rw [List.getLast?_cons, List.getLastD_cons, List.getLastD_eq_getLast?]; rfl

def sp_is_sum (K : PySem.W.Frag) : SpD := fun ds M Q => ∃ x : D, ∃ m : Int, ∃ n : Nat, ds = [x, .int m] ∧ okD n x = true ∧ fewD x ∧ Q (.bl (isSm x m)) M
theorem mono_is_sum {K : PySem.W.Frag} : ∀ ds M (Q Q' : D → Mem → Prop), (∀ d M', Q d M' → Q' d M') → sp_is_sum K ds M Q → sp_is_sum K ds M Q' := by
  rintro ds M Q Q' hQQ ⟨x, m, n, e, hx, hf, q⟩
  exact ⟨x, m, n, e, hx, hf, (by first | exact hQQ _ _ q | exact fun M' a b => hQQ _ _ (q M' a b) | exact fun d M' a => hQQ _ _ (q d M' a) | exact fun M' a => hQQ _ _ (q M' a))⟩
theorem ok_is_sum (T : Top K mg) : Fg P w K mg base 3 "is_sum" ["thing", "many"] [] (sp_is_sum K) := by
  obtain ⟨fd, F⟩ := F_is_sum T
  refine fg_mk (fn_ok F sc_is_sum (by rintro ds M Q ⟨_, _, _, rfl, _⟩; rfl) (by decide) fun cdv A outer s H E hr ds M Q hs => ?_) (g_is_sum T) F.kp (F.bindsN fun _ _ _ _ _ _ us hl => match us, hl with | [_, _], _ => rfl)
  obtain ⟨x, m, n, rfl, hx, hf, q⟩ := hs
  have hnd := sc_is_sum.nd
  show Jss _ [some (x), some (.int m)] M (_ :: _) _
  refine j_ret (e_and (e_call (ok_are_wholes T) hr (a_cons (e_v 0 rfl) a_nil) fun Q q => ⟨x, n, rfl, hx, hf, q⟩) fun hp => e_one ?_) q
  obtain ⟨s, rfl⟩ := areWh_tup hp
  exact e_eqI (e_lenT (b_len T) (a_cons (e_v 0 rfl) a_nil)) (e_add (e_v 1 rfl) e_int)
def sp_need_sum (K : PySem.W.Frag) : SpD := fun ds M Q => ∃ s : List Int, ds = [sumD s] ∧ 1 ≤ s.length ∧ s.length ≤ 11 ∧ Q .non M
theorem mono_need_sum {K : PySem.W.Frag} : ∀ ds M (Q Q' : D → Mem → Prop), (∀ d M', Q d M' → Q' d M') → sp_need_sum K ds M Q → sp_need_sum K ds M Q' := by
  rintro ds M Q Q' hQQ ⟨s, e, h1, h2, q⟩
  exact ⟨s, e, h1, h2, (by first | exact hQQ _ _ q | exact fun M' a b => hQQ _ _ (q M' a b) | exact fun d M' a => hQQ _ _ (q d M' a) | exact fun M' a => hQQ _ _ (q M' a))⟩
theorem ok_need_sum (T : Top K mg) : Fg P w K mg base 3 "need_sum" ["thing"] [] (sp_need_sum K) := by
  obtain ⟨fd, F⟩ := F_need_sum T
  refine fg_mk (fn_ok F sc_need_sum (by rintro ds M Q ⟨_, rfl, _⟩; rfl) (by decide) fun cdv A outer s H E hr ds M Q hs => ?_) (g_need_sum T) F.kp (F.bindsN fun _ _ _ _ _ _ us hl => match us, hl with | [_], _ => rfl)
  obtain ⟨s, rfl, h1, h2, q⟩ := hs
  have hnd := sc_need_sum.nd
  show Jss _ [some (sumD s)] M (_ :: _) _
  obtain ⟨tk, hL⟩ := i_LONGEST T
  refine j_if (evt_is (t_w (w_or (t_not (t_val (e_call (ok_are_wholes T) hr (a_cons (e_v 0 rfl) a_nil) fun Q q => ⟨_, 1, rfl, okD_sum s, few_sum (by omega), q⟩))) fun _ => w_one (t_not (t_chLL e_int (e_lenT (b_len T) (a_cons (e_v 0 rfl) a_nil)) (e_gi hL))))) (?_ : _ = false)) (fun h => by cases h) (fun _ => j_nil (j_nil q))
  rw [areWh_sum, len_sum, decide_eq_true (by omega), decide_eq_true (by omega)]
  rfl
def smI (p : List Int) : Prop := ∀ v ∈ p, -(2 ^ 62) < v ∧ v < 2 ^ 62

end H


set_option Elab.async false
set_option linter.all false
set_option maxRecDepth 100000
set_option maxHeartbeats 4000000
namespace H
open PySem PySem.Spec PyProof.Rows L2 PR
variable {P : Program} {w : World} {K : PySem.W.Frag} {mg : Str → Option Value} {base : Heap}

/-! ### frames -/
abbrev Bx := Str × Int × Int
def bxD (b : Bx) : D := .tup [.str b.1, .int b.2.1, .int b.2.2]
def okBx (wd : Int) (b : Bx) : Prop := isNmS b.1 = true ∧ b.1.length ≤ 6 ∧ -99 ≤ b.2.1 ∧ b.2.1 ≤ b.2.2 ∧ b.2.2 ≤ 99 ∧ b.2.2 ≤ b.2.1 + wd
theorem map_zipD {ds zs : List D} {β : Type} (g : D → β) (f : D → D → β) (h : ∀ x y, g (.tup [x, y]) = f x y) : (zipD ds zs).map g = List.zipWith f ds zs := by
  apply List.ext_getElem?
  intro i
  rw [List.getElem?_map]
  cases e : (zipD ds zs)[i]? with
  | none =>
    have h := List.getElem?_eq_none_iff.mp e
    rw [zipD_len] at h
    have h2 : (List.zipWith f ds zs)[i]? = none := List.getElem?_eq_none (by rw [List.length_zipWith]; exact h)
    rw [h2]
    rfl
  | some d =>
    obtain ⟨x, y, e1, e2, rfl⟩ := zipD_at e
    rw [List.getElem?_zipWith, e1, e2]
    simp [h]
theorem bx_at {bs : List Bx} {i : Nat} {d : D} (h : (bs.map bxD)[i]? = some d) : ∃ b, bs[i]? = some b ∧ d = bxD b := by
  rw [List.getElem?_map] at h
  obtain ⟨b, h1, h2⟩ := Option.map_eq_some_iff.mp h
  exact ⟨b, h1, h2.symm⟩
/-- all that stood but one place stands -/
def Ex (x : Addr) (M M' : Mem) : Prop := ∀ a o, a ≠ x → M a = some o → M' a = some o
theorem Ex.le {x : Addr} {M M' : Mem} {o : MO} (h : Ex x (M.put x o) M') (hn : M x = none) : Mem.Le M M' := fun a u e => by
  have ne : a ≠ x := fun z => by rw [z, hn] at e; cases e
  exact h a u ne (by rw [put_ne ne]; exact e)
theorem Ex.refl (x : Addr) (M : Mem) : Ex x M M := fun _ _ _ h => h
theorem Ex.put {x : Addr} {M M' : Mem} {o : MO} (h : Ex x M M') : Ex x M (M'.put x o) := fun a u ne e => by
  rw [put_ne ne]
  exact h a u ne e
theorem Ex.new {x l : Addr} {M M' : Mem} {o : MO} (h : Ex x M M') (hn : M l = none) : Ex x M (M'.put l o) := fun a u ne e => by
  rw [put_ne (fun z => by rw [z, hn] at e; cases e)]
  exact h a u ne e
def frD (K : PySem.W.Frag) (mk nu : List Bx) : D := .ins (He.ga K "Frame") [("boxed_marks", .tup (mk.map bxD)), ("boxed_numbers", .tup (nu.map bxD))]
def nmD (bs : List Bx) : List D := bs.map fun b => D.str b.1
def fewB (bs : List Bx) : Prop := bs.length ≤ 1000
def wiA (xs : List D) (bs : List Bx) : Bool := (List.zipWith (fun d (b : Bx) => isWi d b.2.1 b.2.2) xs bs).all id
theorem isWi_i {v lo hi : Int} (h1 : lo ≤ v) (h2 : v ≤ hi) : isWi (.int v) lo hi = true := by
  show (decide (lo ≤ v) && decide (v ≤ hi)) = true
  rw [decide_eq_true h1, decide_eq_true h2]
  rfl
def areWi (x : D) (bs : List Bx) : Bool := isTup x && (decide (lenD x = bs.length) && match x with | .tup xs => wiA xs bs | _ => false)

def sp_need_box (K : PySem.W.Frag) : SpD := fun ds M Q => ∃ name : Str, ∃ lo hi wd : Int, ds = [.tup [.str name, .int lo, .int hi], .int wd] ∧ -99 ≤ lo ∧ lo ≤ hi ∧ hi ≤ 99 ∧ hi ≤ lo + wd ∧ Q .non M
theorem mono_need_box {K : PySem.W.Frag} : ∀ ds M (Q Q' : D → Mem → Prop), (∀ d M', Q d M' → Q' d M') → sp_need_box K ds M Q → sp_need_box K ds M Q' := by
  rintro ds M Q Q' hQQ ⟨name, lo, hi, wd, e, h1, h2, h3, h4, q⟩
  exact ⟨name, lo, hi, wd, e, h1, h2, h3, h4, (by first | exact hQQ _ _ q | exact fun M' a b => hQQ _ _ (q M' a b) | exact fun d M' a => hQQ _ _ (q d M' a) | exact fun M' a => hQQ _ _ (q M' a))⟩
theorem ok_need_box (T : Top K mg) : Fg P w K mg base 3 "need_box" ["thing", "wide"] [] (sp_need_box K) := by
  obtain ⟨fd, F⟩ := F_need_box T
  refine fg_mk (fn_ok F sc_need_box (by rintro ds M Q ⟨_, _, _, _, rfl, _⟩; rfl) (by decide) fun cdv A outer s H E hr ds M Q hs => ?_) (g_need_box T) F.kp (F.bindsN fun _ _ _ _ _ _ us hl => match us, hl with | [_, _], _ => rfl)
  obtain ⟨name, lo, hi, wd, rfl, h1, h2, h3, h4, q⟩ := hs
  have hnd := sc_need_box.nd
  show Jss _ [some (.tup [.str name, .int lo, .int hi]), some (.int wd), none, none, none] M (_ :: _) _
  obtain ⟨tk, hF⟩ := i_FAR T
  refine j_unpack (e_v 0 rfl) (tg_tup (tgs_cons (tg_n 2) (tgs_cons (tg_n 3) (tgs_cons (tg_n 4) tgs_nil)))) rfl ?_
  refine j_if (evt_is (t_w (w_or (t_not (t_val (e_call (ok_is_within T) hr (a_cons (e_v 3 rfl) (a_cons (e_sub e_int (e_gi hF)) (a_cons (e_gi hF) a_nil))) fun Q q => ⟨_, _, _, rfl, rfl, q⟩))) fun _ =>
    w_or (t_not (t_val (e_call (ok_is_within T) hr (a_cons (e_v 4 rfl) (a_cons (e_sub e_int (e_gi hF)) (a_cons (e_gi hF) a_nil))) fun Q q => ⟨_, _, _, rfl, rfl, q⟩))) fun _ =>
    w_one (t_not (t_chLL (e_v 3 rfl) (e_v 4 rfl) (e_add (e_v 3 rfl) (e_v 1 rfl)))))) (?_ : _ = false)) (fun h => by cases h) (fun _ => j_nil (j_nil q))
  rw [isWi_i (by omega) (by omega), isWi_i (by omega) (by omega), decide_eq_true h2, decide_eq_true h4]
  rfl
def sp_boxed (K : PySem.W.Frag) : SpD := fun ds M Q => ∃ x : D, ∃ bs : List Bx, ∃ fw mo wd : Int, ∃ k : Addr, ∃ ks : List Str, ds = [x, .int fw, .int mo, .int wd, .obj k] ∧ (x = .lst (bs.map bxD) ∨ x = .tup (bs.map bxD)) ∧ M k = some (.lst (ks.map .str)) ∧ fw ≤ bs.length ∧ (bs.length : Int) ≤ mo ∧ (∀ b ∈ bs, okBx wd b) ∧ (ks ++ bs.map (·.1)).Nodup ∧ ks.length + bs.length ≤ 1000 ∧ Q (.tup (bs.map bxD)) (M.put k (.lst ((ks ++ bs.map (·.1)).map .str)))
theorem mono_boxed {K : PySem.W.Frag} : ∀ ds M (Q Q' : D → Mem → Prop), (∀ d M', Q d M' → Q' d M') → sp_boxed K ds M Q → sp_boxed K ds M Q' := by
  rintro ds M Q Q' hQQ ⟨x, bs, fw, mo, wd, k, ks, e, hx, hk, h1, h2, hb, hn, hz, q⟩
  exact ⟨x, bs, fw, mo, wd, k, ks, e, hx, hk, h1, h2, hb, hn, hz, (by first | exact hQQ _ _ q | exact fun M' a b => hQQ _ _ (q M' a b) | exact fun d M' a => hQQ _ _ (q d M' a) | exact fun M' a => hQQ _ _ (q M' a))⟩
theorem ok_boxed (T : Top K mg) : Fg P w K mg base 4 "boxed" ["things", "few", "most", "wide", "known"] [] (sp_boxed K) := by
  obtain ⟨fd, F⟩ := F_boxed T
  refine fg_mk (fn_ok F sc_boxed (by rintro ds M Q ⟨_, _, _, _, _, _, _, rfl, _⟩; rfl) (by decide) fun cdv A outer s H E hr ds M Q hs => ?_) (g_boxed T) F.kp (F.bindsN fun _ _ _ _ _ _ us hl => match us, hl with | [_, _, _, _, _], _ => rfl)
  obtain ⟨x, bs, fw, mo, wd, k, ks, rfl, hx, hk, h1, h2, hb, hn, hz, q⟩ := hs
  have hnd := sc_boxed.nd
  show Jss _ [some (x), some (.int fw), some (.int mo), some (.int wd), some (.obj k), none] M (_ :: _) _
  rcases hx with rfl | rfl
  · refine j_if (evt_is (t_w (w_or (t_not (t_val (e_isiT (cs := ["list", "tuple"]) (clD_plain rfl) (kit_lt rfl) (b_isinstance T) (a_cons (e_v 0 rfl) (a_cons (e_tup (a_cons (e_ty (b_list T) rfl) (a_cons (e_ty (b_tuple T) rfl) a_nil))) a_nil))))) fun _ => w_one (t_not (t_chLL (e_v 1 rfl) (e_lenL .fz (b_len T) (a_cons (e_v 0 rfl) a_nil)) (e_v 2 rfl))))) (?_ : _ = false)) (fun h => by cases h) (fun _ => j_nil ?_)
    · rw [List.length_map, decide_eq_true h1, decide_eq_true h2]
      rfl
    refine j_for (fun i Γ' M' => M' = M.put k (.lst ((ks ++ (bs.take i).map (·.1)).map .str)) ∧ ∃ o, Γ' = [some (.lst (bs.map bxD)), some (.int fw), some (.int mo), some (.int wd), some (.obj k), o]) (k_lst (e_v 0 rfl)) (tg_n 5) ⟨(put_id (by simpa using hk)).symm, _, rfl⟩ ?_ ?_
    · rintro i x Γ' M' hx ⟨rfl, o, rfl⟩
      obtain ⟨b, hbi, rfl⟩ := bx_at hx
      obtain ⟨g1, g2, g3, g4, g5, g6⟩ := hb b (List.mem_of_getElem? hbi)
      obtain ⟨hlt, _⟩ := List.getElem?_eq_some_iff.mp hbi
      refine ⟨_, rfl, ?_⟩
      refine j_if (evt_is (t_w (w_or (t_not (t_val (e_isi (.inl ⟨"tuple", rfl, rfl⟩) (clD_plain (x := bxD b) rfl) (kit_tup rfl) (b_isinstance T) (a_cons (e_v 5 rfl) (a_cons (e_ty (b_tuple T) rfl) a_nil))))) fun _ => w_one (t_neI (e_lenT (b_len T) (a_cons (e_v 5 rfl) a_nil)) e_int))) (show _ = false from rfl)) (fun h => by cases h) (fun _ => j_nil ?_)
      refine j_if (evt_is (t_not (t_val (e_call (ok_is_name T) (hr.mono (by decide)) (a_cons (e_ixT (d := .str b.1) rfl (e_v 5 rfl) e_int) a_nil) fun Q q => ⟨_, rfl, by omega, q⟩))) (show _ = false by rw [g1]; rfl)) (fun h => by cases h) (fun _ => j_nil ?_)
      have hnk : b.1 ∉ ks ++ (bs.take i).map (·.1) := by
        have e := List.take_append_drop i bs
        rw [← e, List.map_append, ← List.append_assoc] at hn
        have hd : (bs.drop i).map (·.1) = b.1 :: (bs.drop (i + 1)).map (·.1) := by
          rw [List.drop_eq_getElem_cons hlt]
          have e2 : bs[i] = b := by
            have := List.getElem?_eq_getElem hlt
            rw [hbi] at this
            exact (Option.some.inj this).symm
          rw [e2]
          rfl
        rw [hd] at hn
        intro z
        exact (List.nodup_append.mp hn).2.2 _ z _ List.mem_cons_self rfl
      refine j_if (evt_is (t_inSs (ss := ks ++ (bs.take i).map (·.1)) (.mu put_same) (e_ixT (d := .str b.1) rfl (e_v 5 rfl) e_int) (e_v 4 rfl)) (show _ = false from decide_eq_false hnk)) (fun h => by cases h) (fun _ => j_nil ?_)
      refine j_expr (d := .non) (e_call (ok_need_box T) hr (a_cons (e_v 5 rfl) (a_cons (e_v 3 rfl) a_nil)) fun Q q => ⟨b.1, b.2.1, b.2.2, wd, rfl, g3, g4, g5, g6, q⟩) ?_
      refine j_app (e_v 4 rfl) (e_ixT (d := .str b.1) rfl (e_v 5 rfl) e_int) put_same ?_ (j_nil ⟨?_, _, rfl⟩) put_same
      · rw [List.length_map, List.length_append, List.length_map, List.length_take]
        omega
      · rw [put_put, List.take_succ, hbi]
        simp
    · rintro Γ' M' ⟨rfl, o, rfl⟩
      rw [List.length_map, List.take_length]
      exact j_ret (e_tupL .fz (b_tuple T) (a_cons (e_v 0 rfl) a_nil)) q
  · refine j_if (evt_is (t_w (w_or (t_not (t_val (e_isiT (cs := ["list", "tuple"]) (clD_plain rfl) (kit_lt rfl) (b_isinstance T) (a_cons (e_v 0 rfl) (a_cons (e_tup (a_cons (e_ty (b_list T) rfl) (a_cons (e_ty (b_tuple T) rfl) a_nil))) a_nil))))) fun _ => w_one (t_not (t_chLL (e_v 1 rfl) (e_lenT (b_len T) (a_cons (e_v 0 rfl) a_nil)) (e_v 2 rfl))))) (?_ : _ = false)) (fun h => by cases h) (fun _ => j_nil ?_)
    · rw [List.length_map, decide_eq_true h1, decide_eq_true h2]
      rfl
    refine j_for (fun i Γ' M' => M' = M.put k (.lst ((ks ++ (bs.take i).map (·.1)).map .str)) ∧ ∃ o, Γ' = [some (.tup (bs.map bxD)), some (.int fw), some (.int mo), some (.int wd), some (.obj k), o]) (k_tup (e_v 0 rfl)) (tg_n 5) ⟨(put_id (by simpa using hk)).symm, _, rfl⟩ ?_ ?_
    · rintro i x Γ' M' hx ⟨rfl, o, rfl⟩
      obtain ⟨b, hbi, rfl⟩ := bx_at hx
      obtain ⟨g1, g2, g3, g4, g5, g6⟩ := hb b (List.mem_of_getElem? hbi)
      obtain ⟨hlt, _⟩ := List.getElem?_eq_some_iff.mp hbi
      refine ⟨_, rfl, ?_⟩
      refine j_if (evt_is (t_w (w_or (t_not (t_val (e_isi (.inl ⟨"tuple", rfl, rfl⟩) (clD_plain (x := bxD b) rfl) (kit_tup rfl) (b_isinstance T) (a_cons (e_v 5 rfl) (a_cons (e_ty (b_tuple T) rfl) a_nil))))) fun _ => w_one (t_neI (e_lenT (b_len T) (a_cons (e_v 5 rfl) a_nil)) e_int))) (show _ = false from rfl)) (fun h => by cases h) (fun _ => j_nil ?_)
      refine j_if (evt_is (t_not (t_val (e_call (ok_is_name T) (hr.mono (by decide)) (a_cons (e_ixT (d := .str b.1) rfl (e_v 5 rfl) e_int) a_nil) fun Q q => ⟨_, rfl, by omega, q⟩))) (show _ = false by rw [g1]; rfl)) (fun h => by cases h) (fun _ => j_nil ?_)
      have hnk : b.1 ∉ ks ++ (bs.take i).map (·.1) := by
        have e := List.take_append_drop i bs
        rw [← e, List.map_append, ← List.append_assoc] at hn
        have hd : (bs.drop i).map (·.1) = b.1 :: (bs.drop (i + 1)).map (·.1) := by
          rw [List.drop_eq_getElem_cons hlt]
          have e2 : bs[i] = b := by
            have := List.getElem?_eq_getElem hlt
            rw [hbi] at this
            exact (Option.some.inj this).symm
          rw [e2]
          rfl
        rw [hd] at hn
        intro z
        exact (List.nodup_append.mp hn).2.2 _ z _ List.mem_cons_self rfl
      refine j_if (evt_is (t_inSs (ss := ks ++ (bs.take i).map (·.1)) (.mu put_same) (e_ixT (d := .str b.1) rfl (e_v 5 rfl) e_int) (e_v 4 rfl)) (show _ = false from decide_eq_false hnk)) (fun h => by cases h) (fun _ => j_nil ?_)
      refine j_expr (d := .non) (e_call (ok_need_box T) hr (a_cons (e_v 5 rfl) (a_cons (e_v 3 rfl) a_nil)) fun Q q => ⟨b.1, b.2.1, b.2.2, wd, rfl, g3, g4, g5, g6, q⟩) ?_
      refine j_app (e_v 4 rfl) (e_ixT (d := .str b.1) rfl (e_v 5 rfl) e_int) put_same ?_ (j_nil ⟨?_, _, rfl⟩) put_same
      · rw [List.length_map, List.length_append, List.length_map, List.length_take]
        omega
      · rw [put_put, List.take_succ, hbi]
        simp
    · rintro Γ' M' ⟨rfl, o, rfl⟩
      rw [List.length_map, List.take_length]
      exact j_ret (e_tupT (b_tuple T) (a_cons (e_v 0 rfl) a_nil)) q
def sp_Frame_all_boxed (K : PySem.W.Frag) : SpD := fun ds M Q => ∃ mk nu : List Bx, ds = [frD K mk nu] ∧ mk.length + nu.length ≤ 1000 ∧ Q (.tup ((mk ++ nu).map bxD)) M
theorem mono_Frame_all_boxed {K : PySem.W.Frag} : ∀ ds M (Q Q' : D → Mem → Prop), (∀ d M', Q d M' → Q' d M') → sp_Frame_all_boxed K ds M Q → sp_Frame_all_boxed K ds M Q' := by
  rintro ds M Q Q' hQQ ⟨mk, nu, e, hf, q⟩
  exact ⟨mk, nu, e, hf, (by first | exact hQQ _ _ q | exact fun M' a b => hQQ _ _ (q M' a b) | exact fun d M' a => hQQ _ _ (q d M' a) | exact fun M' a => hQQ _ _ (q M' a))⟩
theorem ok_Frame_all_boxed (T : Top K mg) : Mt P w K mg base 1 (He.ga K "Frame") "all_boxed" ["self"] [] (sp_Frame_all_boxed K) := by
  obtain ⟨fd, F⟩ := F_Frame_all_boxed T
  refine mt_mk (fn_ok F sc_Frame_all_boxed (by rintro ds M Q ⟨_, _, rfl, _⟩; rfl) (by decide) fun cdv A outer s H E hr ds M Q hs => ?_) (c_Frame T) (m_Frame_all_boxed T) (F.bindsN fun _ _ _ _ _ _ us hl => match us, hl with | [_], _ => rfl)
  obtain ⟨mk, nu, rfl, hf, q⟩ := hs
  have hnd := sc_Frame_all_boxed.nd
  show Jss _ [some (frD K mk nu)] M (_ :: _) _
  refine j_ret (e_catT (by rw [List.length_map, List.length_map]; omega) (e_fld (e_v 0 rfl) .fz (c_Frame T) (n_Frame_boxed_marks T) rfl) (e_fld (e_v 0 rfl) .fz (c_Frame T) (n_Frame_boxed_numbers T) rfl)) ?_
  rw [List.map_append] at q
  exact q
def sp_Frame_marks (K : PySem.W.Frag) : SpD := fun ds M Q => ∃ mk nu : List Bx, ds = [frD K mk nu] ∧ mk.length + nu.length ≤ 1000 ∧ Q (.lst (nmD mk)) M
theorem mono_Frame_marks {K : PySem.W.Frag} : ∀ ds M (Q Q' : D → Mem → Prop), (∀ d M', Q d M' → Q' d M') → sp_Frame_marks K ds M Q → sp_Frame_marks K ds M Q' := by
  rintro ds M Q Q' hQQ ⟨mk, nu, e, hf, q⟩
  exact ⟨mk, nu, e, hf, (by first | exact hQQ _ _ q | exact fun M' a b => hQQ _ _ (q M' a b) | exact fun d M' a => hQQ _ _ (q d M' a) | exact fun M' a => hQQ _ _ (q M' a))⟩
theorem ok_Frame_marks (T : Top K mg) : Mt P w K mg base 1 (He.ga K "Frame") "marks" ["self"] [] (sp_Frame_marks K) := by
  obtain ⟨fd, F⟩ := F_Frame_marks T
  refine mt_mk (fn_ok F sc_Frame_marks (by rintro ds M Q ⟨_, _, rfl, _⟩; rfl) (by decide) fun cdv A outer s H E hr ds M Q hs => ?_) (c_Frame T) (m_Frame_marks T) (F.bindsN fun _ _ _ _ _ _ us hl => match us, hl with | [_], _ => rfl)
  obtain ⟨mk, nu, rfl, hf, q⟩ := hs
  have hnd := sc_Frame_marks.nd
  show Jss _ [some (frD K mk nu), none, none, none] M (_ :: _) _
  refine j_ret (ev_is (e_fz (n_lcP (own := [("name", 1), ("low", 2), ("high", 3)]) (fun d => match d with | .tup [n, a, b] => n | d => d) (k_tup (e_fld (e_v 0 rfl) .fz (c_Frame T) (n_Frame_boxed_marks T) rfl)) (fun s H C cl fp => tg_tup (nn := 3) (tgs_cons (tg_n 1) (tgs_cons (tg_n 2) (tgs_cons (tg_n 3) tgs_nil)))) (by decide) (fun i x hx => ?_) ?_)) ?_) q
  · obtain ⟨b, hb, rfl⟩ := bx_at hx
    exact ⟨_, rfl, fun N hN s H C cl fp => e_v 1 rfl⟩
  · rw [List.length_map]
    omega
  · rw [List.map_map]
    rfl
def sp_Frame_numbers (K : PySem.W.Frag) : SpD := fun ds M Q => ∃ mk nu : List Bx, ds = [frD K mk nu] ∧ mk.length + nu.length ≤ 1000 ∧ Q (.lst (nmD nu)) M
theorem mono_Frame_numbers {K : PySem.W.Frag} : ∀ ds M (Q Q' : D → Mem → Prop), (∀ d M', Q d M' → Q' d M') → sp_Frame_numbers K ds M Q → sp_Frame_numbers K ds M Q' := by
  rintro ds M Q Q' hQQ ⟨mk, nu, e, hf, q⟩
  exact ⟨mk, nu, e, hf, (by first | exact hQQ _ _ q | exact fun M' a b => hQQ _ _ (q M' a b) | exact fun d M' a => hQQ _ _ (q d M' a) | exact fun M' a => hQQ _ _ (q M' a))⟩
theorem ok_Frame_numbers (T : Top K mg) : Mt P w K mg base 1 (He.ga K "Frame") "numbers" ["self"] [] (sp_Frame_numbers K) := by
  obtain ⟨fd, F⟩ := F_Frame_numbers T
  refine mt_mk (fn_ok F sc_Frame_numbers (by rintro ds M Q ⟨_, _, rfl, _⟩; rfl) (by decide) fun cdv A outer s H E hr ds M Q hs => ?_) (c_Frame T) (m_Frame_numbers T) (F.bindsN fun _ _ _ _ _ _ us hl => match us, hl with | [_], _ => rfl)
  obtain ⟨mk, nu, rfl, hf, q⟩ := hs
  have hnd := sc_Frame_numbers.nd
  show Jss _ [some (frD K mk nu), none, none, none] M (_ :: _) _
  refine j_ret (ev_is (e_fz (n_lcP (own := [("name", 1), ("low", 2), ("high", 3)]) (fun d => match d with | .tup [n, a, b] => n | d => d) (k_tup (e_fld (e_v 0 rfl) .fz (c_Frame T) (n_Frame_boxed_numbers T) rfl)) (fun s H C cl fp => tg_tup (nn := 3) (tgs_cons (tg_n 1) (tgs_cons (tg_n 2) (tgs_cons (tg_n 3) tgs_nil)))) (by decide) (fun i x hx => ?_) ?_)) ?_) q
  · obtain ⟨b, hb, rfl⟩ := bx_at hx
    exact ⟨_, rfl, fun N hN s H C cl fp => e_v 1 rfl⟩
  · rw [List.length_map]
    omega
  · rw [List.map_map]
    rfl
def sp_Frame_names (K : PySem.W.Frag) : SpD := fun ds M Q => ∃ mk nu : List Bx, ds = [frD K mk nu] ∧ mk.length + nu.length ≤ 1000 ∧ Q (.lst (nmD (mk ++ nu))) M
theorem mono_Frame_names {K : PySem.W.Frag} : ∀ ds M (Q Q' : D → Mem → Prop), (∀ d M', Q d M' → Q' d M') → sp_Frame_names K ds M Q → sp_Frame_names K ds M Q' := by
  rintro ds M Q Q' hQQ ⟨mk, nu, e, hf, q⟩
  exact ⟨mk, nu, e, hf, (by first | exact hQQ _ _ q | exact fun M' a b => hQQ _ _ (q M' a b) | exact fun d M' a => hQQ _ _ (q d M' a) | exact fun M' a => hQQ _ _ (q M' a))⟩
theorem ok_Frame_names (T : Top K mg) : Mt P w K mg base 2 (He.ga K "Frame") "names" ["self"] [] (sp_Frame_names K) := by
  obtain ⟨fd, F⟩ := F_Frame_names T
  refine mt_mk (fn_ok F sc_Frame_names (by rintro ds M Q ⟨_, _, rfl, _⟩; rfl) (by decide) fun cdv A outer s H E hr ds M Q hs => ?_) (c_Frame T) (m_Frame_names T) (F.bindsN fun _ _ _ _ _ _ us hl => match us, hl with | [_], _ => rfl)
  obtain ⟨mk, nu, rfl, hf, q⟩ := hs
  have hnd := sc_Frame_names.nd
  show Jss _ [some (frD K mk nu)] M (_ :: _) _
  refine j_ret (ev_is (e_fz (n_cat .fz .fz (by unfold nmD; rw [List.length_map, List.length_map]; omega) (e_meth0 (ok_Frame_marks T) hr (e_v 0 rfl) .fz rfl fun Q q => ⟨mk, nu, rfl, hf, q⟩) (e_meth0 (ok_Frame_numbers T) hr (e_v 0 rfl) .fz rfl fun Q q => ⟨mk, nu, rfl, hf, q⟩))) ?_) q
  unfold nmD
  rw [List.map_append]
def sp_Frame_size (K : PySem.W.Frag) : SpD := fun ds M Q => ∃ mk nu : List Bx, ds = [frD K mk nu] ∧ mk.length + nu.length ≤ 1000 ∧ Q (.int ((mk.length : Int) + nu.length)) M
theorem mono_Frame_size {K : PySem.W.Frag} : ∀ ds M (Q Q' : D → Mem → Prop), (∀ d M', Q d M' → Q' d M') → sp_Frame_size K ds M Q → sp_Frame_size K ds M Q' := by
  rintro ds M Q Q' hQQ ⟨mk, nu, e, hf, q⟩
  exact ⟨mk, nu, e, hf, (by first | exact hQQ _ _ q | exact fun M' a b => hQQ _ _ (q M' a b) | exact fun d M' a => hQQ _ _ (q d M' a) | exact fun M' a => hQQ _ _ (q M' a))⟩
theorem ok_Frame_size (T : Top K mg) : Mt P w K mg base 2 (He.ga K "Frame") "size" ["self"] [] (sp_Frame_size K) := by
  obtain ⟨fd, F⟩ := F_Frame_size T
  refine mt_mk (fn_ok F sc_Frame_size (by rintro ds M Q ⟨_, _, rfl, _⟩; rfl) (by decide) fun cdv A outer s H E hr ds M Q hs => ?_) (c_Frame T) (m_Frame_size T) (F.bindsN fun _ _ _ _ _ _ us hl => match us, hl with | [_], _ => rfl)
  obtain ⟨mk, nu, rfl, hf, q⟩ := hs
  have hnd := sc_Frame_size.nd
  show Jss _ [some (frD K mk nu)] M (_ :: _) _
  refine j_ret (ev_is (e_lenT (b_len T) (a_cons (e_meth0 (ok_Frame_all_boxed T) hr (e_v 0 rfl) .fz rfl fun Q q => ⟨mk, nu, rfl, hf, q⟩) a_nil)) ?_) q
  rw [List.length_map, List.length_append]
  rfl
def sp_Frame_place (K : PySem.W.Frag) : SpD := fun ds M Q => ∃ mk nu : List Bx, ∃ n : Str, ∃ j : Nat, ds = [frD K mk nu, .str n] ∧ mk.length + nu.length ≤ 1000 ∧ ((mk ++ nu).map (·.1))[j]? = some n ∧ (∀ m, m < j → ((mk ++ nu).map (·.1))[m]? ≠ some n) ∧ Q (.int (j : Int)) M
theorem mono_Frame_place {K : PySem.W.Frag} : ∀ ds M (Q Q' : D → Mem → Prop), (∀ d M', Q d M' → Q' d M') → sp_Frame_place K ds M Q → sp_Frame_place K ds M Q' := by
  rintro ds M Q Q' hQQ ⟨mk, nu, n, j, e, hf, hj, hno, q⟩
  exact ⟨mk, nu, n, j, e, hf, hj, hno, (by first | exact hQQ _ _ q | exact fun M' a b => hQQ _ _ (q M' a b) | exact fun d M' a => hQQ _ _ (q d M' a) | exact fun M' a => hQQ _ _ (q M' a))⟩
theorem ok_Frame_place (T : Top K mg) : Mt P w K mg base 3 (He.ga K "Frame") "place" ["self", "name"] [] (sp_Frame_place K) := by
  obtain ⟨fd, F⟩ := F_Frame_place T
  refine mt_mk (fn_ok F sc_Frame_place (by rintro ds M Q ⟨_, _, _, _, rfl, _⟩; rfl) (by decide) fun cdv A outer s H E hr ds M Q hs => ?_) (c_Frame T) (m_Frame_place T) (F.bindsN fun _ _ _ _ _ _ us hl => match us, hl with | [_, _], _ => rfl)
  obtain ⟨mk, nu, n, j, rfl, hf, hj, hno, q⟩ := hs
  have hnd := sc_Frame_place.nd
  show Jss _ [some (frD K mk nu), some (.str n)] M (_ :: _) _
  have hm : n ∈ (mk ++ nu).map (·.1) := List.mem_of_getElem? hj
  have e : nmD (mk ++ nu) = ((mk ++ nu).map (·.1)).map D.str := by unfold nmD; rw [List.map_map]; rfl
  refine j_if (evt_is (t_w (w_or (t_not (t_val (e_isi (.inl ⟨"str", rfl, rfl⟩) (clD_plain rfl) (kit_str rfl) (b_isinstance T) (a_cons (e_v 1 rfl) (a_cons (e_ty (b_str T) rfl) a_nil))))) fun _ =>
    w_one (t_ninSs .fz (e_v 1 rfl) (ev_is (e_meth0 (ok_Frame_names T) hr (e_v 0 rfl) .fz rfl fun Q q => ⟨mk, nu, rfl, hf, q⟩) (by rw [e]))))) (?_ : _ = false)) (fun h => by cases h) (fun _ => j_nil ?_)
  · rw [decide_eq_true hm]
    rfl
  · exact j_ret (e_indexL .fz hj hno (ev_is (e_meth0 (ok_Frame_names T) hr (e_v 0 rfl) .fz rfl fun Q q => ⟨mk, nu, rfl, hf, q⟩) (by rw [e])) .fz (e_v 1 rfl)) q
def sp_Frame_box (K : PySem.W.Frag) : SpD := fun ds M Q => ∃ mk nu : List Bx, ∃ n : Str, ∃ j : Nat, ∃ b : Bx, ds = [frD K mk nu, .str n] ∧ mk.length + nu.length ≤ 1000 ∧ ((mk ++ nu).map (·.1))[j]? = some n ∧ (∀ m, m < j → ((mk ++ nu).map (·.1))[m]? ≠ some n) ∧ (mk ++ nu)[j]? = some b ∧ Q (.tup [.int b.2.1, .int b.2.2]) M
theorem mono_Frame_box {K : PySem.W.Frag} : ∀ ds M (Q Q' : D → Mem → Prop), (∀ d M', Q d M' → Q' d M') → sp_Frame_box K ds M Q → sp_Frame_box K ds M Q' := by
  rintro ds M Q Q' hQQ ⟨mk, nu, n, j, b, e, hf, hj, hno, hb, q⟩
  exact ⟨mk, nu, n, j, b, e, hf, hj, hno, hb, (by first | exact hQQ _ _ q | exact fun M' a b => hQQ _ _ (q M' a b) | exact fun d M' a => hQQ _ _ (q d M' a) | exact fun M' a => hQQ _ _ (q M' a))⟩
theorem ok_Frame_box (T : Top K mg) : Mt P w K mg base 4 (He.ga K "Frame") "box" ["self", "name"] [] (sp_Frame_box K) := by
  obtain ⟨fd, F⟩ := F_Frame_box T
  refine mt_mk (fn_ok F sc_Frame_box (by rintro ds M Q ⟨_, _, _, _, _, rfl, _⟩; rfl) (by decide) fun cdv A outer s H E hr ds M Q hs => ?_) (c_Frame T) (m_Frame_box T) (F.bindsN fun _ _ _ _ _ _ us hl => match us, hl with | [_, _], _ => rfl)
  obtain ⟨mk, nu, n, j, b, rfl, hf, hj, hno, hb, q⟩ := hs
  have hnd := sc_Frame_box.nd
  show Jss _ [some (frD K mk nu), some (.str n)] M (_ :: _) _
  refine j_ret (ev_is (e_slT (e_ixT (atI_nat (d := bxD b) (by rw [List.getElem?_map, hb]; rfl)) (e_meth0 (ok_Frame_all_boxed T) (hr.mono (by decide)) (e_v 0 rfl) .fz rfl fun Q q => ⟨mk, nu, rfl, hf, q⟩) (e_meth (ok_Frame_place T) hr (e_v 0 rfl) .fz rfl (a_cons (e_v 1 rfl) a_nil) fun Q q => ⟨mk, nu, n, j, rfl, hf, hj, hno, q⟩)) (o_some e_int) o_none) rfl) q
def sp_Frame_told (K : PySem.W.Frag) : SpD := fun ds M Q => ∃ mk nu : List Bx, ds = [frD K mk nu] ∧ Q (.tup [.tup (mk.map bxD), .tup (nu.map bxD)]) M
theorem mono_Frame_told {K : PySem.W.Frag} : ∀ ds M (Q Q' : D → Mem → Prop), (∀ d M', Q d M' → Q' d M') → sp_Frame_told K ds M Q → sp_Frame_told K ds M Q' := by
  rintro ds M Q Q' hQQ ⟨mk, nu, e, q⟩
  exact ⟨mk, nu, e, (by first | exact hQQ _ _ q | exact fun M' a b => hQQ _ _ (q M' a b) | exact fun d M' a => hQQ _ _ (q d M' a) | exact fun M' a => hQQ _ _ (q M' a))⟩
theorem ok_Frame_told (T : Top K mg) : Mt P w K mg base 1 (He.ga K "Frame") "told" ["self"] [] (sp_Frame_told K) := by
  obtain ⟨fd, F⟩ := F_Frame_told T
  refine mt_mk (fn_ok F sc_Frame_told (by rintro ds M Q ⟨_, _, rfl, _⟩; rfl) (by decide) fun cdv A outer s H E hr ds M Q hs => ?_) (c_Frame T) (m_Frame_told T) (F.bindsN fun _ _ _ _ _ _ us hl => match us, hl with | [_], _ => rfl)
  obtain ⟨mk, nu, rfl, q⟩ := hs
  have hnd := sc_Frame_told.nd
  show Jss _ [some (frD K mk nu)] M (_ :: _) _
  exact j_ret (e_tup (a_cons (e_fld (e_v 0 rfl) .fz (c_Frame T) (n_Frame_boxed_marks T) rfl) (a_cons (e_fld (e_v 0 rfl) .fz (c_Frame T) (n_Frame_boxed_numbers T) rfl) a_nil))) q
def sp_need_frame (K : PySem.W.Frag) : SpD := fun ds M Q => ∃ mk nu : List Bx, ds = [frD K mk nu] ∧ Q .non M
theorem mono_need_frame {K : PySem.W.Frag} : ∀ ds M (Q Q' : D → Mem → Prop), (∀ d M', Q d M' → Q' d M') → sp_need_frame K ds M Q → sp_need_frame K ds M Q' := by
  rintro ds M Q Q' hQQ ⟨mk, nu, e, q⟩
  exact ⟨mk, nu, e, (by first | exact hQQ _ _ q | exact fun M' a b => hQQ _ _ (q M' a b) | exact fun d M' a => hQQ _ _ (q d M' a) | exact fun M' a => hQQ _ _ (q M' a))⟩
theorem ok_need_frame (T : Top K mg) : Fg P w K mg base 1 "need_frame" ["thing"] [] (sp_need_frame K) := by
  obtain ⟨fd, F⟩ := F_need_frame T
  refine fg_mk (fn_ok F sc_need_frame (by rintro ds M Q ⟨_, _, rfl, _⟩; rfl) (by decide) fun cdv A outer s H E hr ds M Q hs => ?_) (g_need_frame T) F.kp (F.bindsN fun _ _ _ _ _ _ us hl => match us, hl with | [_], _ => rfl)
  obtain ⟨mk, nu, rfl, q⟩ := hs
  have hnd := sc_need_frame.nd
  show Jss _ [some (frD K mk nu)] M (_ :: _) _
  exact j_if (t_not (t_val (e_isi (.inr ⟨He.ga K "Frame", rfl, rfl⟩) (.ins .fz (xc_Frame T)) (xi_Frame_Frame T) (b_isinstance T) (a_cons (e_v 0 rfl) (a_cons (e_gl (v := .ref _) (g_Frame T) rfl (fun _ => .obj _)) a_nil))))) (fun h => by cases h) (fun _ => j_nil (j_nil q))

theorem putD_lt {f : Str} {d : D} {fs : List (Str × D)} {k : Nat} (h : fs.length < k) : (putD f d fs).length < k + 1 := Nat.lt_of_le_of_lt (putD_len f d fs) (Nat.succ_lt_succ h)
structure okFr (mk nu : List Bx) : Prop where
  m1 : 1 ≤ mk.length
  m2 : mk.length ≤ 3
  n2 : nu.length ≤ 2
  bm : ∀ b ∈ mk, okBx 11 b
  bn : ∀ b ∈ nu, okBx 5 b
  nd : ((mk ++ nu).map (·.1)).Nodup
theorem okFr.few {mk nu : List Bx} (h : okFr mk nu) : mk.length + nu.length ≤ 1000 := by
  have := h.m2
  have := h.n2
  omega

def sp_Frame___init__ (K : PySem.W.Frag) : SpD := fun ds M Q => ∃ x : Addr, ∃ mk nu : List Bx, ∃ dm dn : D, ds = [.obj x, dm, dn] ∧ (dm = .lst (mk.map bxD) ∨ dm = .tup (mk.map bxD)) ∧ (dn = .lst (nu.map bxD) ∨ dn = .tup (nu.map bxD)) ∧ M x = some (.ins (He.ga K "Frame") []) ∧ okFr mk nu ∧ ∀ M', Ex x M M' → M' x = some (.ins (He.ga K "Frame") [("boxed_marks", .tup (mk.map bxD)), ("boxed_numbers", .tup (nu.map bxD))]) → Q .non M'
theorem mono_Frame___init__ {K : PySem.W.Frag} : ∀ ds M (Q Q' : D → Mem → Prop), (∀ d M', Q d M' → Q' d M') → sp_Frame___init__ K ds M Q → sp_Frame___init__ K ds M Q' := by
  rintro ds M Q Q' hQQ ⟨x, mk, nu, dm, dn, e, hm, hn, hx, hf, q⟩
  exact ⟨x, mk, nu, dm, dn, e, hm, hn, hx, hf, (by first | exact hQQ _ _ q | exact fun M' a b => hQQ _ _ (q M' a b) | exact fun d M' a => hQQ _ _ (q d M' a) | exact fun M' a => hQQ _ _ (q M' a))⟩
theorem ok_Frame___init__ (T : Top K mg) : Cg P w K mg base 5 "Frame" (He.ga K "Frame") ["self", "marks", "numbers"] [] (sp_Frame___init__ K) := by
  obtain ⟨fd, F⟩ := F_Frame___init__ T
  have hB : Binds K fd ["self", "marks", "numbers"] [] := by
    obtain ⟨ds, v1, v2⟩ := F.binds1 (ps := ["self", "marks", "numbers"]) 3 1 (by intro h; cases h) rfl (fun T' kV doc pm an cdv ct us its h1 h2 => match us, h1 with
      | [_, _, _], _ => match its, h2 with
        | [_], _ => ⟨_, rfl, rfl⟩)
    cases v1
    exact v2
  refine cg_mk (fn_ok F sc_Frame___init__ (by rintro ds M Q ⟨_, _, _, _, _, rfl, _⟩; rfl) (by decide) fun cdv A outer s H E hr ds M Q hs => ?_) (g_Frame T) (k_Frame T) hB
  obtain ⟨x, mk, nu, dm, dn, rfl, hm, hn, hx, hf, q⟩ := hs
  have hnd := sc_Frame___init__.nd
  obtain ⟨tk1, hW1⟩ := i_WIDE_MARK T
  obtain ⟨tk2, hW2⟩ := i_WIDE_NUMBER T
  have f1 := hf.m1
  have f2 := hf.m2
  have f3 := hf.n2
  have f4 := hf.nd
  show Jss _ [some (.obj x), some dm, some dn, none] M (_ :: _) _
  refine j_setN 3 (n_lst a_nil) (fun l hl => ?_)
  have ne : x ≠ l := fun z => by rw [z, hl] at hx; cases hx
  refine j_fld (d := .tup (mk.map bxD)) (e_call (ok_boxed T) hr (a_cons (e_v 1 rfl) (a_cons e_int (a_cons e_int (a_cons (e_gi hW1) (a_cons (e_v 3 rfl) a_nil))))) fun Q q => ⟨dm, mk, 1, 3, 11, l, [], rfl, hm, put_same, by omega, by omega, hf.bm, by rw [List.map_append] at f4; exact (List.nodup_append.mp f4).1, by simp; omega, q⟩) (e_v 0 rfl) (by rw [put_ne ne, put_ne ne]; exact hx) (c_Frame T) (n_Frame_boxed_marks T) (by decide) ?_
  refine j_fld (d := .tup []) (e_tup a_nil) (e_v 0 rfl) put_same (c_Frame T) (n_Frame_boxed_numbers T) (putD_lt (by decide)) ?_
  have hnn : (!isNon dn) = true := by rcases hn with rfl | rfl <;> rfl
  refine j_if (evt_is (t_notN (e_v 2 rfl) e_non) hnn) (fun _ => ?_) (fun h => by cases h)
  refine j_fld (d := .tup (nu.map bxD)) (e_call (ok_boxed T) hr (a_cons (e_v 2 rfl) (a_cons e_int (a_cons e_int (a_cons (e_gi hW2) (a_cons (e_v 3 rfl) a_nil))))) fun Q q => ⟨dn, nu, 0, 2, 5, l, mk.map (·.1), rfl, hn, by rw [put_ne ne.symm, put_ne ne.symm]; exact put_same, by omega, by omega, hf.bn, by rw [List.map_append] at f4; exact f4, by rw [List.length_map]; omega, q⟩) (e_v 0 rfl) (by rw [put_ne ne]; exact put_same) (c_Frame T) (n_Frame_boxed_numbers T) (putD_lt (putD_lt (by decide))) (j_nil (j_nil ?_))
  refine q _ ?_ (by rw [put_same]; rfl)
  exact (((((((Ex.refl x M).new hl).new hl).put).put).new hl).put)

end H


set_option Elab.async false
set_option linter.all false
set_option maxRecDepth 100000
set_option maxHeartbeats 4000000
namespace H
open PySem PySem.Spec PyProof.Rows L2 PR
variable {P : Program} {w : World} {K : PySem.W.Frag} {mg : Str → Option Value} {base : Heap}

/-! ### programs as they are told, as they are built -/
abbrev Bd := Int × List Int
def bdD (b : Bd) : D := .tup [.int b.1, sumD b.2]
def gpD (g : List Bd) : D := .tup (g.map bdD)
def gsD (gs : List (List Bd)) : D := .tup (gs.map gpD)
def stD : Option Bd → D
  | none => .non
  | some b => bdD b
inductive Ws where
  | most (s : List Int) | even (b : Int) (s : List Int)
def wsD : Ws → D
  | .most s => .tup [.str "most", sumD s]
  | .even b s => .tup [.str "even", .int b, sumD s]
inductive Nd where
  | deed (w : Str) | test (ws : List Ws) (body : List Nd)
  | rnd (n : Str) (spot : Nat) (lo hi : Int) (lows highs : List (List Bd)) (step : Option Bd) (body : List Nd)
mutual
def pD : Nd → D
  | .deed w => .tup [.str "deed", .str w]
  | .test ws b => .tup [.str "test", .tup (ws.map wsD), .tup (pDs b)]
  | .rnd n _ _ _ l h s b => .tup [.str "round", .str n, gsD l, gsD h, stD s, .tup (pDs b)]
def pDs : List Nd → List D
  | [] => []
  | n :: r => pD n :: pDs r
end
mutual
def nD (K : PySem.W.Frag) : Nd → D
  | .deed w => .ins (He.ga K "Deed") [("body", .lst []), ("word", .str w)]
  | .test ws b => .ins (He.ga K "Test") [("body", .lst (nDs K b)), ("tests", .tup (ws.map wsD))]
  | .rnd _ sp lo hi l h s b => .ins (He.ga K "Round") [("body", .lst (nDs K b)), ("spot", .int (sp : Int)), ("low", .int lo), ("high", .int hi), ("lows", gsD l), ("highs", gsD h), ("step", stD s)]
def nDs (K : PySem.W.Frag) : List Nd → List D
  | [] => []
  | n :: r => nD K n :: nDs K r
end
mutual
def sz : Nd → Nat
  | .deed _ => 1
  | .test _ b => 1 + szs b
  | .rnd _ _ _ _ _ _ _ b => 1 + szs b
def szs : List Nd → Nat
  | [] => 0
  | n :: r => sz n + szs r
end
theorem pDs_map : ∀ b : List Nd, pDs b = b.map pD
  | [] => rfl
  | n :: r => by simp [pDs, pDs_map r]
theorem nDs_map (K : PySem.W.Frag) : ∀ b : List Nd, nDs K b = b.map (nD K)
  | [] => rfl
  | n :: r => by simp [nDs, nDs_map K r]
theorem szs_take (b : List Nd) {i : Nat} {n : Nd} (h : b[i]? = some n) : szs (b.take (i + 1)) = szs (b.take i) + sz n := by
  induction b generalizing i with
  | nil => simp at h
  | cons a r ih =>
    cases i with
    | zero =>
      simp at h
      subst h
      simp [szs]
    | succ i =>
      simp only [List.take_succ_cons, szs]
      rw [ih (by simpa using h)]
      omega
theorem szs_le (b : List Nd) (i : Nat) : szs (b.take i) ≤ szs b := by
  induction b generalizing i with
  | nil => simp [szs]
  | cons a r ih =>
    cases i with
    | zero => simp [szs]
    | succ i =>
      simp only [List.take_succ_cons, szs]
      have := ih i
      omega
def okOf (mk nu : List Bx) (o : Nat) (s : List Int) : Prop := s.length = mk.length + nu.length + 1 ∧ ∀ i, o ≤ i → i < mk.length → s[i]? = some 0
def okWs (mk nu : List Bx) (o : Nat) : Ws → Prop
  | .most s => okOf mk nu o s
  | .even b s => 2 ≤ b ∧ b ≤ 5 ∧ okOf mk nu o s
def okGr (mk nu : List Bx) (o : Nat) (gs : List (List Bd)) : Prop := 1 ≤ gs.length ∧ gs.length ≤ 20 ∧ ∀ g ∈ gs, g.length ≤ 1000 ∧ ∀ b ∈ g, 1 ≤ b.1 ∧ okOf mk nu o b.2
def okSt (mk nu : List Bx) (o : Nat) : Option Bd → Prop
  | none => True
  | some b => 2 ≤ b.1 ∧ b.1 ≤ 5 ∧ okOf mk nu (o + 1) b.2 ∧ gcdL [b.1, b.2.getD o 0] = 1
/-- a node that may stand where so many marks are open, so many levels being left -/
def okNd (mk nu : List Bx) : Nat → Nat → Nd → Prop
  | 0, _, _ => False
  | _ + 1, o, .deed w => isNmS w = true ∧ w.length ≤ 6 ∧ o = mk.length
  | k + 1, o, .test ws b => 1 ≤ ws.length ∧ ws.length ≤ 1000 ∧ (∀ w ∈ ws, okWs mk nu o w) ∧ b.length ≤ 60 ∧ ∀ n ∈ b, okNd mk nu k o n
  | k + 1, o, .rnd n sp lo hi l h s b => sp = o ∧ mk[o]? = some (n, lo, hi) ∧ okGr mk nu o l ∧ okGr mk nu o h ∧ okSt mk nu o s ∧ b.length ≤ 60 ∧ ∀ n ∈ b, okNd mk nu k (o + 1) n
theorem okNd_o {mk nu : List Bx} : ∀ {k o : Nat} {n : Nd}, okNd mk nu k o n → o ≤ mk.length → o ≤ mk.length := fun _ h => h
theorem cutD_nat {ds : List D} {a b : Nat} (h1 : a ≤ ds.length) (h2 : b ≤ ds.length) : PR.cutD ds (some (a : Int)) (some (b : Int)) = (ds.drop a).take (b - a) := by
  unfold PR.cutD
  rw [HT.sIx_nat, HT.sIx_nat, Nat.min_eq_left h1, Nat.min_eq_left h2]

def sp_is_of (K : PySem.W.Frag) : SpD := fun ds M Q => ∃ mk nu : List Bx, ∃ o : Nat, ∃ s : List Int, ds = [frD K mk nu, .int (o : Int), sumD s] ∧ mk.length + nu.length ≤ 10 ∧ o ≤ mk.length ∧ okOf mk nu o s ∧ Q (.bl true) M
theorem mono_is_of {K : PySem.W.Frag} : ∀ ds M (Q Q' : D → Mem → Prop), (∀ d M', Q d M' → Q' d M') → sp_is_of K ds M Q → sp_is_of K ds M Q' := by
  rintro ds M Q Q' hQQ ⟨mk, nu, o, s, e, hf, ho, hs, q⟩
  exact ⟨mk, nu, o, s, e, hf, ho, hs, (by first | exact hQQ _ _ q | exact fun M' a b => hQQ _ _ (q M' a b) | exact fun d M' a => hQQ _ _ (q d M' a) | exact fun M' a => hQQ _ _ (q M' a))⟩
theorem ok_is_of (T : Top K mg) : Fg P w K mg base 4 "is_of" ["frame", "opened", "one"] [] (sp_is_of K) := by
  obtain ⟨fd, F⟩ := F_is_of T
  refine fg_mk (fn_ok F sc_is_of (by rintro ds M Q ⟨_, _, _, _, rfl, _⟩; rfl) (by decide) fun cdv A outer s H E hr ds M Q hs => ?_) (g_is_of T) F.kp (F.bindsN fun _ _ _ _ _ _ us hl => match us, hl with | [_, _, _], _ => rfl)
  obtain ⟨mk, nu, o, s, rfl, hf, ho, hs, q⟩ := hs
  have hnd := sc_is_of.nd
  show Jss _ [some (frD K mk nu), some (.int (o : Int)), some (sumD s), none] M (_ :: _) _
  obtain ⟨hl, hz⟩ := hs
  refine j_if (evt_is (t_not (t_val (e_call (ok_is_sum T) hr (a_cons (e_v 2 rfl) (a_cons (e_meth0 (ok_Frame_size T) (hr.mono (by decide)) (e_v 0 rfl) .fz rfl fun Q q => ⟨mk, nu, rfl, by omega, q⟩) a_nil)) fun Q q => ⟨_, _, 1, rfl, okD_sum s, few_sum (by omega), q⟩))) (?_ : _ = false)) (fun h => by cases h) (fun _ => j_nil ?_)
  · rw [isSm_sum (by omega)]
    rfl
  refine j_ret (ev_is (e_all (bs := ((s.drop o).take (mk.length - o)).map fun i => decide (i = 0)) .fz (b_all T) (a_cons (ev_is (e_fz (n_lcP (own := [("factor", 3)]) (fun d => match d with | .int i => .bl (decide (i = 0)) | d => d) (k_tup (e_slT (e_v 2 rfl) (o_some (e_v 1 rfl)) (o_some (e_lenL .fz (b_len T) (a_cons (e_meth0 (ok_Frame_marks T) (hr.mono (by decide)) (e_v 0 rfl) .fz rfl fun Q q => ⟨mk, nu, rfl, by omega, q⟩) a_nil))))) (fun s H C cl fp => tg_n 3) (by decide) (fun i x hx => ?_) ?_)) ?_) a_nil)) ?_) q
  · unfold nmD at hx
    rw [List.length_map, cutD_nat (by rw [List.length_map]; omega) (by rw [List.length_map]; omega), ← List.map_drop, ← List.map_take, List.getElem?_map] at hx
    obtain ⟨v, h1, rfl⟩ := Option.map_eq_some_iff.mp hx
    exact ⟨_, rfl, fun N hN s H C cl fp => e_eqI (e_v 3 rfl) e_int⟩
  · unfold nmD
    rw [List.length_map, cutD_nat (by rw [List.length_map]; omega) (by rw [List.length_map]; omega), List.length_take, List.length_drop, List.length_map]
    omega
  · unfold nmD
    rw [List.length_map, cutD_nat (by rw [List.length_map]; omega) (by rw [List.length_map]; omega), ← List.map_drop, ← List.map_take, List.map_map, List.map_map]
    rfl
  · congr 1
    rw [List.all_map]
    refine List.all_eq_true.mpr fun v hv => decide_eq_true ?_
    obtain ⟨i, hi, e⟩ := List.getElem_of_mem hv
    rw [List.length_take, List.length_drop] at hi
    have h2 := hz (o + i) (by omega) (by omega)
    rw [List.getElem_take, List.getElem_drop] at e
    rw [List.getElem?_eq_getElem (by omega)] at h2
    rw [← e]
    exact Option.some.inj h2
def sp_is_pair (K : PySem.W.Frag) : SpD := fun ds M Q => ∃ b lo : Int, ∃ y : D, ds = [.tup [.int b, y], .int lo] ∧ lo ≤ b ∧ Q (.bl true) M
theorem mono_is_pair {K : PySem.W.Frag} : ∀ ds M (Q Q' : D → Mem → Prop), (∀ d M', Q d M' → Q' d M') → sp_is_pair K ds M Q → sp_is_pair K ds M Q' := by
  rintro ds M Q Q' hQQ ⟨b, lo, y, e, h, q⟩
  exact ⟨b, lo, y, e, h, (by first | exact hQQ _ _ q | exact fun M' a b => hQQ _ _ (q M' a b) | exact fun d M' a => hQQ _ _ (q d M' a) | exact fun M' a => hQQ _ _ (q M' a))⟩
theorem ok_is_pair (T : Top K mg) : Fg P w K mg base 2 "is_pair" ["thing", "low"] [] (sp_is_pair K) := by
  obtain ⟨fd, F⟩ := F_is_pair T
  refine fg_mk (fn_ok F sc_is_pair (by rintro ds M Q ⟨_, _, _, rfl, _⟩; rfl) (by decide) fun cdv A outer s H E hr ds M Q hs => ?_) (g_is_pair T) F.kp (F.bindsN fun _ _ _ _ _ _ us hl => match us, hl with | [_, _], _ => rfl)
  obtain ⟨b, lo, y, rfl, h, q⟩ := hs
  have hnd := sc_is_pair.nd
  show Jss _ [some (.tup [.int b, y]), some (.int lo)] M (_ :: _) _
  refine j_ret (ev_is (e_and (r := true) (e_isi (.inl ⟨"tuple", rfl, rfl⟩) (clD_plain rfl) (kit_tup rfl) (b_isinstance T) (a_cons (e_v 0 rfl) (a_cons (e_ty (b_tuple T) rfl) a_nil))) fun _ => ev_is (e_and (r := true) (e_eqI (e_lenT (b_len T) (a_cons (e_v 0 rfl) a_nil)) e_int) fun _ => ev_is (e_and (r := true) (e_call (ok_is_whole T) hr (a_cons (e_ixT (d := .int b) rfl (e_v 0 rfl) e_int) a_nil) fun Q q => ⟨_, rfl, rfl, q⟩) fun _ => e_one (ev_is (e_ge (e_ixT (d := .int b) rfl (e_v 0 rfl) e_int) (e_v 1 rfl)) (by rw [decide_eq_true h]))) rfl) rfl) rfl) q
def sp_is_test_wish (K : PySem.W.Frag) : SpD := fun ds M Q => ∃ mk nu : List Bx, ∃ o : Nat, ∃ x : Ws, ds = [frD K mk nu, .int (o : Int), wsD x] ∧ mk.length + nu.length ≤ 10 ∧ o ≤ mk.length ∧ okWs mk nu o x ∧ Q (.bl true) M
theorem mono_is_test_wish {K : PySem.W.Frag} : ∀ ds M (Q Q' : D → Mem → Prop), (∀ d M', Q d M' → Q' d M') → sp_is_test_wish K ds M Q → sp_is_test_wish K ds M Q' := by
  rintro ds M Q Q' hQQ ⟨mk, nu, o, x, e, hf, ho, hs, q⟩
  exact ⟨mk, nu, o, x, e, hf, ho, hs, (by first | exact hQQ _ _ q | exact fun M' a b => hQQ _ _ (q M' a b) | exact fun d M' a => hQQ _ _ (q d M' a) | exact fun M' a => hQQ _ _ (q M' a))⟩
theorem ok_is_test_wish (T : Top K mg) : Fg P w K mg base 5 "is_test_wish" ["frame", "opened", "thing"] [] (sp_is_test_wish K) := by
  obtain ⟨fd, F⟩ := F_is_test_wish T
  refine fg_mk (fn_ok F sc_is_test_wish (by rintro ds M Q ⟨_, _, _, _, rfl, _⟩; rfl) (by decide) fun cdv A outer s H E hr ds M Q hs => ?_) (g_is_test_wish T) F.kp (F.bindsN fun _ _ _ _ _ _ us hl => match us, hl with | [_, _, _], _ => rfl)
  obtain ⟨mk, nu, o, x, rfl, hf, ho, hs, q⟩ := hs
  have hnd := sc_is_test_wish.nd
  show Jss _ [some (frD K mk nu), some (.int (o : Int)), some (wsD x)] M (_ :: _) _
  obtain ⟨tk1, hM⟩ := t_MOST T
  obtain ⟨tk2, hE⟩ := t_EVEN T
  obtain ⟨tk3, hG⟩ := i_GREATEST_BY T
  cases x with
  | most s =>
    refine j_if (evt_is (t_w (w_or (t_not (t_val (e_isi (.inl ⟨"tuple", rfl, rfl⟩) (clD_plain rfl) (kit_tup rfl) (b_isinstance T) (a_cons (e_v 2 rfl) (a_cons (e_ty (b_tuple T) rfl) a_nil))))) fun _ => w_one (t_ninTi (ss := [2, 3]) (e_lenT (ds := [.str "most", sumD s]) (b_len T) (a_cons (e_v 2 rfl) a_nil)) (e_tup (a_cons e_int (a_cons e_int a_nil)))))) (show _ = false from rfl)) (fun h => by cases h) (fun _ => j_nil ?_)
    refine j_if (evt_is (t_eqI (e_lenT (ds := [.str "most", sumD s]) (b_len T) (a_cons (e_v 2 rfl) a_nil)) e_int) (show _ = true from rfl)) (fun _ => ?_) (fun h => by cases h)
    exact j_ret (ev_is (e_and (r := true) (e_eqS (e_ixT (ds := [.str "most", sumD s]) (d := .str "most") rfl (e_v 2 rfl) e_int) (e_gs hM)) fun _ => e_one (e_call (ok_is_of T) hr (a_cons (e_v 0 rfl) (a_cons (e_v 1 rfl) (a_cons (e_ixT (ds := [.str "most", sumD s]) (d := sumD s) rfl (e_v 2 rfl) e_int) a_nil))) fun Q q => ⟨mk, nu, o, s, rfl, hf, ho, hs, q⟩)) rfl) q
  | even b s =>
    obtain ⟨hb1, hb2, hs⟩ := hs
    refine j_if (evt_is (t_w (w_or (t_not (t_val (e_isi (.inl ⟨"tuple", rfl, rfl⟩) (clD_plain rfl) (kit_tup rfl) (b_isinstance T) (a_cons (e_v 2 rfl) (a_cons (e_ty (b_tuple T) rfl) a_nil))))) fun _ => w_one (t_ninTi (ss := [2, 3]) (e_lenT (ds := [.str "even", .int b, sumD s]) (b_len T) (a_cons (e_v 2 rfl) a_nil)) (e_tup (a_cons e_int (a_cons e_int a_nil)))))) (show _ = false from rfl)) (fun h => by cases h) (fun _ => j_nil ?_)
    refine j_if (evt_is (t_eqI (e_lenT (ds := [.str "even", .int b, sumD s]) (b_len T) (a_cons (e_v 2 rfl) a_nil)) e_int) (show _ = false from rfl)) (fun h => by cases h) (fun _ => j_nil ?_)
    exact j_ret (ev_is (e_and (r := true) (e_eqS (e_ixT (ds := [.str "even", .int b, sumD s]) (d := .str "even") rfl (e_v 2 rfl) e_int) (e_gs hE)) fun _ => ev_is (e_and (r := true) (e_call (ok_is_within T) (hr.mono (by decide)) (a_cons (e_ixT (ds := [.str "even", .int b, sumD s]) (d := .int b) rfl (e_v 2 rfl) e_int) (a_cons e_int (a_cons (e_gi hG) a_nil))) fun Q q => ⟨_, _, _, rfl, rfl, q⟩) fun _ => e_one (e_call (ok_is_of T) hr (a_cons (e_v 0 rfl) (a_cons (e_v 1 rfl) (a_cons (e_ixT (ds := [.str "even", .int b, sumD s]) (d := sumD s) rfl (e_v 2 rfl) e_int) a_nil))) fun Q q => ⟨mk, nu, o, s, rfl, hf, ho, hs, q⟩)) (by rw [isWi_i hb1 hb2]; rfl)) rfl) q
def sp_are_groups (K : PySem.W.Frag) : SpD := fun ds M Q => ∃ mk nu : List Bx, ∃ o : Nat, ∃ gs : List (List Bd), ds = [frD K mk nu, .int (o : Int), gsD gs] ∧ mk.length + nu.length ≤ 10 ∧ o ≤ mk.length ∧ okGr mk nu o gs ∧ Q (.bl true) M
theorem mono_are_groups {K : PySem.W.Frag} : ∀ ds M (Q Q' : D → Mem → Prop), (∀ d M', Q d M' → Q' d M') → sp_are_groups K ds M Q → sp_are_groups K ds M Q' := by
  rintro ds M Q Q' hQQ ⟨mk, nu, o, gs, e, hf, ho, hs, q⟩
  exact ⟨mk, nu, o, gs, e, hf, ho, hs, (by first | exact hQQ _ _ q | exact fun M' a b => hQQ _ _ (q M' a b) | exact fun d M' a => hQQ _ _ (q d M' a) | exact fun M' a => hQQ _ _ (q M' a))⟩
theorem ok_are_groups (T : Top K mg) : Fg P w K mg base 5 "are_groups" ["frame", "opened", "thing"] [] (sp_are_groups K) := by
  obtain ⟨fd, F⟩ := F_are_groups T
  refine fg_mk (fn_ok F sc_are_groups (by rintro ds M Q ⟨_, _, _, _, rfl, _⟩; rfl) (by decide) fun cdv A outer s H E hr ds M Q hs => ?_) (g_are_groups T) F.kp (F.bindsN fun _ _ _ _ _ _ us hl => match us, hl with | [_, _, _], _ => rfl)
  obtain ⟨mk, nu, o, gs, rfl, hf, ho, hs, q⟩ := hs
  have hnd := sc_are_groups.nd
  show Jss _ [some (frD K mk nu), some (.int (o : Int)), some (gsD gs), none, none] M (_ :: _) _
  obtain ⟨tk1, hM⟩ := i_MOST_GROUPS T
  obtain ⟨h1, h2, hg⟩ := hs
  refine j_if (evt_is (t_w (w_or (t_not (t_val (e_isi (.inl ⟨"tuple", rfl, rfl⟩) (clD_plain rfl) (kit_tup rfl) (b_isinstance T) (a_cons (e_v 2 rfl) (a_cons (e_ty (b_tuple T) rfl) a_nil))))) fun _ => w_one (t_not (t_chLL e_int (e_lenT (ds := gs.map gpD) (b_len T) (a_cons (e_v 2 rfl) a_nil)) (e_gi hM))))) (?_ : _ = false)) (fun h => by cases h) (fun _ => j_nil ?_)
  · rw [List.length_map, decide_eq_true (by omega), decide_eq_true (by omega)]
    rfl
  refine j_for (fun i Γ' M' => M' = M ∧ ∃ o1, Γ' = [some (frD K mk nu), some (.int (o : Int)), some (gsD gs), o1, none]) (k_tup (ds := gs.map gpD) (e_v 2 rfl)) (tg_n 3) ⟨rfl, _, rfl⟩ ?_ ?_
  · rintro i x Γ' M' hx ⟨rfl, o1, rfl⟩
    rw [List.getElem?_map] at hx
    obtain ⟨g, hgi, rfl⟩ := Option.map_eq_some_iff.mp hx
    obtain ⟨g1, g2⟩ := hg g (List.mem_of_getElem? hgi)
    refine ⟨_, rfl, ?_⟩
    refine j_if (t_not (t_val (e_isi (.inl ⟨"tuple", rfl, rfl⟩) (clD_plain (x := gpD g) rfl) (kit_tup rfl) (b_isinstance T) (a_cons (e_v 3 rfl) (a_cons (e_ty (b_tuple T) rfl) a_nil))))) (fun h => by cases h) (fun _ => j_nil ?_)
    refine j_if (evt_is (t_not (t_val (e_all (bs := g.map fun _ => true) .fz (b_all T) (a_cons (ev_is (e_fz (n_lcP (own := [("bound", 4)]) (fun _ => .bl true) (k_tup (ds := g.map bdD) (e_v 3 rfl)) (fun s H C cl fp => tg_n 4) (by decide) (fun i x hx => ?_) (by rw [List.length_map]; omega))) (by rw [List.map_map, List.map_map]; rfl)) a_nil)))) (?_ : _ = false)) (fun h => by cases h) (fun _ => j_nil (j_nil ⟨rfl, _, rfl⟩))
    · rw [List.getElem?_map] at hx
      obtain ⟨b, hb, rfl⟩ := Option.map_eq_some_iff.mp hx
      obtain ⟨b1, b2⟩ := g2 b (List.mem_of_getElem? hb)
      refine ⟨_, rfl, fun N hN s H C cl fp => ev_is (e_and (r := true) (e_call (ok_is_pair T) (hr.mono (by decide)) (a_cons (e_v 4 rfl) (a_cons e_int a_nil)) fun Q q => ⟨b.1, 1, sumD b.2, rfl, b1, q⟩) fun _ => e_one (e_call (ok_is_of T) hr (a_cons (e_v 0 rfl) (a_cons (e_v 1 rfl) (a_cons (e_ixT (ds := [.int b.1, sumD b.2]) (d := sumD b.2) rfl (e_v 4 rfl) e_int) a_nil))) fun Q q => ⟨mk, nu, o, b.2, rfl, hf, ho, b2, q⟩)) rfl⟩
    · have e : (g.map fun _ => true).all id = true := by simp
      rw [e]
      rfl
  · rintro Γ' M' ⟨rfl, o1, rfl⟩
    exact j_ret e_bl q
def sp_is_step (K : PySem.W.Frag) : SpD := fun ds M Q => ∃ mk nu : List Bx, ∃ o : Nat, ∃ st : Option Bd, ds = [frD K mk nu, .int (o : Int), stD st] ∧ mk.length + nu.length ≤ 10 ∧ o < mk.length ∧ okSt mk nu o st ∧ Q (.bl true) M
theorem mono_is_step {K : PySem.W.Frag} : ∀ ds M (Q Q' : D → Mem → Prop), (∀ d M', Q d M' → Q' d M') → sp_is_step K ds M Q → sp_is_step K ds M Q' := by
  rintro ds M Q Q' hQQ ⟨mk, nu, o, st, e, hf, ho, hs, q⟩
  exact ⟨mk, nu, o, st, e, hf, ho, hs, (by first | exact hQQ _ _ q | exact fun M' a b => hQQ _ _ (q M' a b) | exact fun d M' a => hQQ _ _ (q d M' a) | exact fun M' a => hQQ _ _ (q M' a))⟩
theorem ok_is_step (T : Top K mg) : Fg P w K mg base 5 "is_step" ["frame", "opened", "thing"] [] (sp_is_step K) := by
  obtain ⟨fd, F⟩ := F_is_step T
  refine fg_mk (fn_ok F sc_is_step (by rintro ds M Q ⟨_, _, _, _, rfl, _⟩; rfl) (by decide) fun cdv A outer s H E hr ds M Q hs => ?_) (g_is_step T) F.kp (F.bindsN fun _ _ _ _ _ _ us hl => match us, hl with | [_, _, _], _ => rfl)
  obtain ⟨mk, nu, o, st, rfl, hf, ho, hs, q⟩ := hs
  have hnd := sc_is_step.nd
  show Jss _ [some (frD K mk nu), some (.int (o : Int)), some (stD st)] M (_ :: _) _
  obtain ⟨tk3, hG⟩ := i_GREATEST_BY T
  cases st with
  | none => exact j_if (t_isN (e_v 2 rfl) e_non) (fun _ => j_ret e_bl q) (fun h => by cases h)
  | some b =>
    obtain ⟨h1, h2, h3, h4⟩ := hs
    have hx : L2.atI (b.2.map D.int) (o : Int) = some (.int (b.2.getD o 0)) := by
      refine atI_nat ?_
      have hl := h3.1
      have hlt : o < b.2.length := by omega
      rw [List.getElem?_map, List.getD_eq_getElem?_getD, List.getElem?_eq_getElem hlt]
      rfl
    refine j_if (t_isN (d := bdD b) (e_v 2 rfl) e_non) (fun h => by cases h) (fun _ => j_nil ?_)
    refine j_if (evt_is (t_w (w_or (t_not (t_val (e_call (ok_is_pair T) (hr.mono (by decide)) (a_cons (e_v 2 rfl) (a_cons e_int a_nil)) fun Q q => ⟨b.1, 2, sumD b.2, rfl, h1, q⟩))) fun _ =>
      w_or (t_gt (e_ixT (ds := [.int b.1, sumD b.2]) (d := .int b.1) rfl (e_v 2 rfl) e_int) (e_gi hG)) fun _ => w_one (t_not (t_val (e_call (ok_is_of T) hr (a_cons (e_v 0 rfl) (a_cons (e_add (e_v 1 rfl) e_int) (a_cons (e_ixT (ds := [.int b.1, sumD b.2]) (d := sumD b.2) rfl (e_v 2 rfl) e_int) a_nil))) fun Q q => ⟨mk, nu, o + 1, b.2, by push_cast; rfl, hf, by omega, h3, q⟩))))) (?_ : _ = false)) (fun h => by cases h) (fun _ => j_nil ?_)
    · rw [decide_eq_false (by omega)]
      rfl
    refine j_ret (ev_is (e_eqI (e_call (d := .int (gcdL [b.1, b.2.getD o 0])) (ok_common_part T) (hr.mono (by decide)) (a_cons (e_tup (a_cons (e_ixT (ds := [.int b.1, sumD b.2]) (d := .int b.1) rfl (e_v 2 rfl) e_int) (a_cons (e_ixT hx (e_ixT (ds := [.int b.1, sumD b.2]) (d := sumD b.2) rfl (e_v 2 rfl) e_int) (e_v 1 rfl)) a_nil))) a_nil) fun Q q => ⟨[b.1, b.2.getD o 0], rfl, by simp, q⟩) e_int) ?_) q
    rw [decide_eq_true h4]
end H

set_option Elab.async false
set_option linter.all false
set_option maxRecDepth 100000
set_option maxHeartbeats 4000000
namespace H
open PySem PySem.Spec PyProof.Rows L2 PR
variable {P : Program} {w : World} {K : PySem.W.Frag} {mg : Str → Option Value} {base : Heap}
def sp_Node___init__ (K : PySem.W.Frag) : SpD := fun ds M Q => ∃ x C : Addr, ∃ bd : D, ds = [.obj x, bd] ∧ M x = some (.ins C []) ∧ Cls K C ∧ NoAttr K C "body" ∧ Q .non (M.put x (.ins C [("body", bd)]))
theorem mono_Node___init__ {K : PySem.W.Frag} : ∀ ds M (Q Q' : D → Mem → Prop), (∀ d M', Q d M' → Q' d M') → sp_Node___init__ K ds M Q → sp_Node___init__ K ds M Q' := by
  rintro ds M Q Q' hQQ ⟨x, C, bd, e, hx, cl, na, q⟩
  exact ⟨x, C, bd, e, hx, cl, na, (by first | exact hQQ _ _ q | exact fun M' a b => hQQ _ _ (q M' a b) | exact fun d M' a => hQQ _ _ (q d M' a) | exact fun M' a => hQQ _ _ (q M' a))⟩
theorem ok_Node___init__ (T : Top K mg) : Cf P w K mg base 1 (He.ga K "Node") "__init__" ["self", "body"] [] (sp_Node___init__ K) := by
  obtain ⟨fd, F⟩ := F_Node___init__ T
  refine cf_mk (fn_ok F sc_Node___init__ (by rintro ds M Q ⟨_, _, _, rfl, _⟩; rfl) (by decide) fun cdv A outer s H E hr ds M Q hs => ?_) (xf_Node___init__ T) (F.bindsN fun _ _ _ _ _ _ us hl => match us, hl with | [_, _], _ => rfl)
  obtain ⟨x, C, bd, rfl, hx, cl, na, q⟩ := hs
  have hnd := sc_Node___init__.nd
  show Jss _ [some (.obj x), some (bd)] M (_ :: _) _
  exact j_fld (e_v 1 rfl) (e_v 0 rfl) hx cl na (by decide) (j_nil q)
def sp_Deed___init__ (K : PySem.W.Frag) : SpD := fun ds M Q => ∃ x : Addr, ∃ wd : Str, ds = [.obj x, .str wd] ∧ M x = some (.ins (He.ga K "Deed") []) ∧ ∀ M', Ex x M M' → M' x = some (.ins (He.ga K "Deed") [("body", .lst []), ("word", .str wd)]) → Q .non M'
theorem mono_Deed___init__ {K : PySem.W.Frag} : ∀ ds M (Q Q' : D → Mem → Prop), (∀ d M', Q d M' → Q' d M') → sp_Deed___init__ K ds M Q → sp_Deed___init__ K ds M Q' := by
  rintro ds M Q Q' hQQ ⟨x, wd, e, hx, q⟩
  exact ⟨x, wd, e, hx, (by first | exact hQQ _ _ q | exact fun M' a b => hQQ _ _ (q M' a b) | exact fun d M' a => hQQ _ _ (q d M' a) | exact fun M' a => hQQ _ _ (q M' a))⟩
theorem ok_Deed___init__ (T : Top K mg) : Cg P w K mg base 2 "Deed" (He.ga K "Deed") ["self", "word"] [] (sp_Deed___init__ K) := by
  obtain ⟨fd, F⟩ := F_Deed___init__ T
  refine cg_mk (fn_ok F sc_Deed___init__ (by rintro ds M Q ⟨_, _, rfl, _⟩; rfl) (by decide) fun cdv A outer s H E hr ds M Q hs => ?_) (g_Deed T) (k_Deed T) (F.bindsN fun _ _ _ _ _ _ us hl => match us, hl with | [_, _], _ => rfl)
  obtain ⟨x, wd, rfl, hx, q⟩ := hs
  have hnd := sc_Deed___init__.nd
  show Jss _ [some (.obj x), some (.str wd)] M (_ :: _) _
  refine j_expr (d := .non) (e_cfn (ok_Node___init__ T) hr (e_gl (v := .ref _) (g_Node T) rfl (fun _ => .obj _)) (a_cons (e_v 0 rfl) (a_cons (e_fz (n_lst a_nil)) a_nil)) fun Q q => ⟨x, _, .lst [], rfl, hx, c_Deed T, n_Deed_body T, q⟩) ?_
  exact j_fld (e_v 1 rfl) (e_v 0 rfl) put_same (c_Deed T) (n_Deed_word T) (Nat.le_of_ble_eq_true rfl) (j_nil (q _ (((Ex.refl x M).put).put) (by rw [put_same]; rfl)))
def sp_Test___init__ (K : PySem.W.Frag) : SpD := fun ds M Q => ∃ x : Addr, ∃ ts bd : D, ds = [.obj x, ts, bd] ∧ M x = some (.ins (He.ga K "Test") []) ∧ ∀ M', Ex x M M' → M' x = some (.ins (He.ga K "Test") [("body", bd), ("tests", ts)]) → Q .non M'
theorem mono_Test___init__ {K : PySem.W.Frag} : ∀ ds M (Q Q' : D → Mem → Prop), (∀ d M', Q d M' → Q' d M') → sp_Test___init__ K ds M Q → sp_Test___init__ K ds M Q' := by
  rintro ds M Q Q' hQQ ⟨x, ts, bd, e, hx, q⟩
  exact ⟨x, ts, bd, e, hx, (by first | exact hQQ _ _ q | exact fun M' a b => hQQ _ _ (q M' a b) | exact fun d M' a => hQQ _ _ (q d M' a) | exact fun M' a => hQQ _ _ (q M' a))⟩
theorem ok_Test___init__ (T : Top K mg) : Cg P w K mg base 2 "Test" (He.ga K "Test") ["self", "tests", "body"] [] (sp_Test___init__ K) := by
  obtain ⟨fd, F⟩ := F_Test___init__ T
  refine cg_mk (fn_ok F sc_Test___init__ (by rintro ds M Q ⟨_, _, _, rfl, _⟩; rfl) (by decide) fun cdv A outer s H E hr ds M Q hs => ?_) (g_Test T) (k_Test T) (F.bindsN fun _ _ _ _ _ _ us hl => match us, hl with | [_, _, _], _ => rfl)
  obtain ⟨x, ts, bd, rfl, hx, q⟩ := hs
  have hnd := sc_Test___init__.nd
  show Jss _ [some (.obj x), some (ts), some (bd)] M (_ :: _) _
  refine j_expr (d := .non) (e_cfn (ok_Node___init__ T) hr (e_gl (v := .ref _) (g_Node T) rfl (fun _ => .obj _)) (a_cons (e_v 0 rfl) (a_cons (e_v 2 rfl) a_nil)) fun Q q => ⟨x, _, bd, rfl, hx, c_Test T, n_Test_body T, q⟩) ?_
  exact j_fld (e_v 1 rfl) (e_v 0 rfl) put_same (c_Test T) (n_Test_tests T) (Nat.le_of_ble_eq_true rfl) (j_nil (q _ (((Ex.refl x M).put).put) (by rw [put_same]; rfl)))
def sp_Round___init__ (K : PySem.W.Frag) : SpD := fun ds M Q => ∃ x : Addr, ∃ sp lo hi : Int, ∃ a0 a1 l h s b0 bd : D, ds = [.obj x, .int sp, .tup [.int lo, .int hi], .tup [a0, a1, l, h, s, b0], bd] ∧ M x = some (.ins (He.ga K "Round") []) ∧ ∀ M', Ex x M M' → M' x = some (.ins (He.ga K "Round") [("body", bd), ("spot", .int sp), ("low", .int lo), ("high", .int hi), ("lows", l), ("highs", h), ("step", s)]) → Q .non M'
theorem mono_Round___init__ {K : PySem.W.Frag} : ∀ ds M (Q Q' : D → Mem → Prop), (∀ d M', Q d M' → Q' d M') → sp_Round___init__ K ds M Q → sp_Round___init__ K ds M Q' := by
  rintro ds M Q Q' hQQ ⟨x, sp, lo, hi, a0, a1, l, h, s, b0, bd, e, hx, q⟩
  exact ⟨x, sp, lo, hi, a0, a1, l, h, s, b0, bd, e, hx, (by first | exact hQQ _ _ q | exact fun M' a b => hQQ _ _ (q M' a b) | exact fun d M' a => hQQ _ _ (q d M' a) | exact fun M' a => hQQ _ _ (q M' a))⟩
theorem ok_Round___init__ (T : Top K mg) : Cg P w K mg base 2 "Round" (He.ga K "Round") ["self", "spot", "box", "told", "body"] [] (sp_Round___init__ K) := by
  obtain ⟨fd, F⟩ := F_Round___init__ T
  refine cg_mk (fn_ok F sc_Round___init__ (by rintro ds M Q ⟨_, _, _, _, _, _, _, _, _, _, _, rfl, _⟩; rfl) (by decide) fun cdv A outer s H E hr ds M Q hs => ?_) (g_Round T) (k_Round T) (F.bindsN fun _ _ _ _ _ _ us hl => match us, hl with | [_, _, _, _, _], _ => rfl)
  obtain ⟨x, sp, lo, hi, a0, a1, l, h, s, b0, bd, rfl, hx, q⟩ := hs
  have hnd := sc_Round___init__.nd
  show Jss _ [some (.obj x), some (.int sp), some (.tup [.int lo, .int hi]), some (.tup [a0, a1, l, h, s, b0]), some (bd)] M (_ :: _) _
  refine j_expr (d := .non) (e_cfn (ok_Node___init__ T) hr (e_gl (v := .ref _) (g_Node T) rfl (fun _ => .obj _)) (a_cons (e_v 0 rfl) (a_cons (e_v 4 rfl) a_nil)) fun Q q => ⟨x, _, bd, rfl, hx, c_Round T, n_Round_body T, q⟩) ?_
  refine j_fld (e_v 1 rfl) (e_v 0 rfl) put_same (c_Round T) (n_Round_spot T) (Nat.le_of_ble_eq_true rfl) ?_
  refine j_unpA 0 (ns := ["low", "high"]) (e_v 2 rfl) rfl put_same (ga_cons 0 (c_Round T) (n_Round_low T) (ga_cons 0 (c_Round T) (n_Round_high T) ga_nil)) rfl (Nat.le_of_ble_eq_true rfl) ?_
  refine j_unpA 0 (ns := ["lows", "highs", "step"]) (ds := [l, h, s]) (ev_is (e_slT (e_v 3 rfl) (o_some e_int) (o_some e_int)) rfl) rfl put_same (ga_cons 0 (c_Round T) (n_Round_lows T) (ga_cons 0 (c_Round T) (n_Round_highs T) (ga_cons 0 (c_Round T) (n_Round_step T) ga_nil))) rfl (Nat.le_of_ble_eq_true rfl) (j_nil ?_)
  exact q _ (((((Ex.refl x M).put).put).put).put) (by rw [put_same]; rfl)

def bfD (K : PySem.W.Frag) (mk nu : List Bx) (c : Nat) : List (Str × D) := [("home", frD K mk nu), ("marks_told", .lst (nmD mk)), ("count", .int (c : Int))]

def sp_Builder___init__ (K : PySem.W.Frag) : SpD := fun ds M Q => ∃ x : Addr, ∃ mk nu : List Bx, ds = [.obj x, frD K mk nu] ∧ M x = some (.ins (He.ga K "Builder") []) ∧ mk.length + nu.length ≤ 1000 ∧ ∀ M', Ex x M M' → M' x = some (.ins (He.ga K "Builder") (bfD K mk nu 0)) → Q .non M'
theorem mono_Builder___init__ {K : PySem.W.Frag} : ∀ ds M (Q Q' : D → Mem → Prop), (∀ d M', Q d M' → Q' d M') → sp_Builder___init__ K ds M Q → sp_Builder___init__ K ds M Q' := by
  rintro ds M Q Q' hQQ ⟨x, mk, nu, e, hx, hf, q⟩
  exact ⟨x, mk, nu, e, hx, hf, (by first | exact hQQ _ _ q | exact fun M' a b => hQQ _ _ (q M' a b) | exact fun d M' a => hQQ _ _ (q d M' a) | exact fun M' a => hQQ _ _ (q M' a))⟩
theorem ok_Builder___init__ (T : Top K mg) : Cg P w K mg base 2 "Builder" (He.ga K "Builder") ["self", "frame"] [] (sp_Builder___init__ K) := by
  obtain ⟨fd, F⟩ := F_Builder___init__ T
  refine cg_mk (fn_ok F sc_Builder___init__ (by rintro ds M Q ⟨_, _, _, rfl, _⟩; rfl) (by decide) fun cdv A outer s H E hr ds M Q hs => ?_) (g_Builder T) (k_Builder T) (F.bindsN fun _ _ _ _ _ _ us hl => match us, hl with | [_, _], _ => rfl)
  obtain ⟨x, mk, nu, rfl, hx, hf, q⟩ := hs
  have hnd := sc_Builder___init__.nd
  show Jss _ [some (.obj x), some (frD K mk nu)] M (_ :: _) _
  refine j_fld (e_v 1 rfl) (e_v 0 rfl) hx (c_Builder T) (n_Builder_home T) (by decide) ?_
  refine j_fld (e_meth0 (ok_Frame_marks T) hr (e_v 1 rfl) .fz rfl fun Q q => ⟨mk, nu, rfl, hf, q⟩) (e_v 0 rfl) put_same (c_Builder T) (n_Builder_marks_told T) (Nat.le_of_ble_eq_true rfl) ?_
  exact j_fld (d := .int 0) e_int (e_v 0 rfl) put_same (c_Builder T) (n_Builder_count T) (Nat.le_of_ble_eq_true rfl) (j_nil (q _ ((((Ex.refl x M).put).put).put) (by rw [put_same]; rfl)))

def isDeedN : Nd → Bool
  | .deed _ => true
  | _ => false
def isTestN : Nd → Bool
  | .test _ _ => true
  | _ => false
theorem okD_ws (ws : List Ws) : okD 3 (.tup (ws.map wsD)) = true := by
  show okA 2 (ws.map wsD) = true
  induction ws with
  | nil => rfl
  | cons a r ih =>
    refine Bool.and_eq_true_iff.mpr ⟨?_, ih⟩
    cases a with
    | most s =>
      show (PyData.strOk "most" && (okD 1 (sumD s) && okA 1 [])) = true
      rw [okD_sum]
      decide +kernel
    | even b s =>
      show (PyData.strOk "even" && (true && (okD 1 (sumD s) && okA 1 []))) = true
      rw [okD_sum]
      decide +kernel
theorem eqv_nil (a : D) (r : List D) : PyData.eqv (py (.tup (a :: r))) (py (.tup [])) = false := by
  simp [py, pyA, PyData.eqv, PyData.eqvAll]
theorem name_at {mk nu : List Bx} (hf : okFr mk nu) {o : Nat} {b : Bx} (h : mk[o]? = some b) : ((mk ++ nu).map (·.1))[o]? = some b.1 ∧ (∀ m, m < o → ((mk ++ nu).map (·.1))[m]? ≠ some b.1) ∧ (mk ++ nu)[o]? = some b := by
  obtain ⟨h1, h2⟩ := List.getElem?_eq_some_iff.mp h
  have e : (mk ++ nu)[o]? = some b := by rw [List.getElem?_append_left h1]; exact h
  have e1 : ((mk ++ nu).map (·.1))[o]? = some b.1 := by rw [List.getElem?_map, e]; rfl
  refine ⟨e1, fun m hm z => ?_, e⟩
  have hl : m < ((mk ++ nu).map (·.1)).length := by
    rw [List.length_map, List.length_append]
    omega
  have := (List.getElem?_inj hl hf.nd).mp (z.trans e1.symm)
  omega

def sp_Builder_is_deed (K : PySem.W.Frag) : SpD := fun ds M Q => ∃ b : Addr, ∃ mk nu : List Bx, ∃ c k o : Nat, ∃ nd : Nd, ds = [.obj b, pD nd, .int (o : Int)] ∧ M b = some (.ins (He.ga K "Builder") (bfD K mk nu c)) ∧ okFr mk nu ∧ okNd mk nu k o nd ∧ o ≤ mk.length ∧ Q (.bl (isDeedN nd)) M
theorem mono_Builder_is_deed {K : PySem.W.Frag} : ∀ ds M (Q Q' : D → Mem → Prop), (∀ d M', Q d M' → Q' d M') → sp_Builder_is_deed K ds M Q → sp_Builder_is_deed K ds M Q' := by
  rintro ds M Q Q' hQQ ⟨b, mk, nu, c, k, o, nd, e, hM, hf, hn, ho, q⟩
  exact ⟨b, mk, nu, c, k, o, nd, e, hM, hf, hn, ho, (by first | exact hQQ _ _ q | exact fun M' a b => hQQ _ _ (q M' a b) | exact fun d M' a => hQQ _ _ (q d M' a) | exact fun M' a => hQQ _ _ (q M' a))⟩
theorem ok_Builder_is_deed (T : Top K mg) : Mt P w K mg base 3 (He.ga K "Builder") "is_deed" ["self", "thing", "opened"] [] (sp_Builder_is_deed K) := by
  obtain ⟨fd, F⟩ := F_Builder_is_deed T
  refine mt_mk (fn_ok F sc_Builder_is_deed (by rintro ds M Q ⟨_, _, _, _, _, _, _, rfl, _⟩; rfl) (by decide) fun cdv A outer s H E hr ds M Q hs => ?_) (c_Builder T) (m_Builder_is_deed T) (F.bindsN fun _ _ _ _ _ _ us hl => match us, hl with | [_, _, _], _ => rfl)
  obtain ⟨b, mk, nu, c, k, o, nd, rfl, hM, hf, hn, ho, q⟩ := hs
  have hnd := sc_Builder_is_deed.nd
  show Jss _ [some (.obj b), some (pD nd), some (.int (o : Int))] M (_ :: _) _
  cases nd with
  | deed w1 =>
    cases k with
    | zero => exact hn.elim
    | succ k =>
      obtain ⟨n1, n2, n3⟩ := hn
      refine j_if (evt_is (t_w (w_or (t_not (t_val (e_isi (.inl ⟨"tuple", rfl, rfl⟩) (clD_plain (x := pD (.deed w1)) rfl) (kit_tup rfl) (b_isinstance T) (a_cons (e_v 1 rfl) (a_cons (e_ty (b_tuple T) rfl) a_nil))))) fun _ => w_one (t_neI (e_lenT (ds := [.str "deed", .str w1]) (b_len T) (a_cons (e_v 1 rfl) a_nil)) e_int))) (show _ = false from rfl)) (fun h => by cases h) (fun _ => j_nil ?_)
      refine j_ret (d := .bl true) (ev_is (e_and (r := true) (e_eqS (e_ixT (ds := [.str "deed", .str w1]) (d := .str "deed") rfl (e_v 1 rfl) e_int) e_str) fun _ => ev_is (e_and (r := true) (e_call (ok_is_name T) hr (a_cons (e_ixT (ds := [.str "deed", .str w1]) (d := .str w1) rfl (e_v 1 rfl) e_int) a_nil) fun Q q => ⟨w1, rfl, by omega, q⟩) fun _ => e_one (ev_is (e_eqI (e_v 2 rfl) (e_lenL .fz (b_len T) (a_cons (e_fld (e_v 0 rfl) (.mu hM) (c_Builder T) (n_Builder_marks_told T) rfl) a_nil))) ?_)) (by rw [n1]; rfl)) rfl) q
      unfold nmD
      rw [List.length_map, n3, decide_eq_true rfl]
  | test ws bd => exact j_if (evt_is (t_w (w_or (t_not (t_val (e_isi (.inl ⟨"tuple", rfl, rfl⟩) (clD_plain (x := pD (.test ws bd)) rfl) (kit_tup rfl) (b_isinstance T) (a_cons (e_v 1 rfl) (a_cons (e_ty (b_tuple T) rfl) a_nil))))) fun _ => w_one (t_neI (e_lenT (ds := [.str "test", .tup (ws.map wsD), .tup (pDs bd)]) (b_len T) (a_cons (e_v 1 rfl) a_nil)) e_int))) (show _ = true from rfl)) (fun _ => j_ret (d := .bl false) e_bl q) (fun h => by cases h)
  | rnd n1 sp lo hi l1 h1 s1 bd => exact j_if (evt_is (t_w (w_or (t_not (t_val (e_isi (.inl ⟨"tuple", rfl, rfl⟩) (clD_plain (x := pD (.rnd n1 sp lo hi l1 h1 s1 bd)) rfl) (kit_tup rfl) (b_isinstance T) (a_cons (e_v 1 rfl) (a_cons (e_ty (b_tuple T) rfl) a_nil))))) fun _ => w_one (t_neI (e_lenT (ds := [.str "round", .str n1, gsD l1, gsD h1, stD s1, .tup (pDs bd)]) (b_len T) (a_cons (e_v 1 rfl) a_nil)) e_int))) (show _ = true from rfl)) (fun _ => j_ret (d := .bl false) e_bl q) (fun h => by cases h)
def sp_Builder_is_test (K : PySem.W.Frag) : SpD := fun ds M Q => ∃ b : Addr, ∃ mk nu : List Bx, ∃ c k o : Nat, ∃ nd : Nd, ds = [.obj b, pD nd, .int (o : Int)] ∧ M b = some (.ins (He.ga K "Builder") (bfD K mk nu c)) ∧ okFr mk nu ∧ okNd mk nu k o nd ∧ o ≤ mk.length ∧ isDeedN nd = false ∧ Q (.bl (isTestN nd)) M
theorem mono_Builder_is_test {K : PySem.W.Frag} : ∀ ds M (Q Q' : D → Mem → Prop), (∀ d M', Q d M' → Q' d M') → sp_Builder_is_test K ds M Q → sp_Builder_is_test K ds M Q' := by
  rintro ds M Q Q' hQQ ⟨b, mk, nu, c, k, o, nd, e, hM, hf, hn, ho, nn, q⟩
  exact ⟨b, mk, nu, c, k, o, nd, e, hM, hf, hn, ho, nn, (by first | exact hQQ _ _ q | exact fun M' a b => hQQ _ _ (q M' a b) | exact fun d M' a => hQQ _ _ (q d M' a) | exact fun M' a => hQQ _ _ (q M' a))⟩
theorem ok_Builder_is_test (T : Top K mg) : Mt P w K mg base 6 (He.ga K "Builder") "is_test" ["self", "thing", "opened"] [] (sp_Builder_is_test K) := by
  obtain ⟨fd, F⟩ := F_Builder_is_test T
  refine mt_mk (fn_ok F sc_Builder_is_test (by rintro ds M Q ⟨_, _, _, _, _, _, _, rfl, _⟩; rfl) (by decide) fun cdv A outer s H E hr ds M Q hs => ?_) (c_Builder T) (m_Builder_is_test T) (F.bindsN fun _ _ _ _ _ _ us hl => match us, hl with | [_, _, _], _ => rfl)
  obtain ⟨b, mk, nu, c, k, o, nd, rfl, hM, hf, hn, ho, nn, q⟩ := hs
  have hnd := sc_Builder_is_test.nd
  show Jss _ [some (.obj b), some (pD nd), some (.int (o : Int)), none] M (_ :: _) _
  have f1 := hf.m2
  have f2 := hf.n2
  cases nd with
  | deed w1 => cases nn
  | test ws bd =>
    cases k with
    | zero => exact hn.elim
    | succ k =>
      obtain ⟨n1, n2, n3, n4, n5⟩ := hn
      refine j_if (evt_is (t_w (w_or (t_not (t_val (e_isi (.inl ⟨"tuple", rfl, rfl⟩) (clD_plain (x := pD (.test ws bd)) rfl) (kit_tup rfl) (b_isinstance T) (a_cons (e_v 1 rfl) (a_cons (e_ty (b_tuple T) rfl) a_nil))))) fun _ => w_or (t_neI (e_lenT (ds := [.str "test", .tup (ws.map wsD), .tup (pDs bd)]) (b_len T) (a_cons (e_v 1 rfl) a_nil)) e_int) fun _ => w_or (t_neS (e_ixT (ds := [.str "test", .tup (ws.map wsD), .tup (pDs bd)]) (d := .str "test") rfl (e_v 1 rfl) e_int) e_str) fun _ => w_one (t_not (t_val (e_isi (.inl ⟨"tuple", rfl, rfl⟩) (clD_plain (x := .tup (ws.map wsD)) rfl) (kit_tup rfl) (b_isinstance T) (a_cons (e_ixT (ds := [.str "test", .tup (ws.map wsD), .tup (pDs bd)]) rfl (e_v 1 rfl) e_int) (a_cons (e_ty (b_tuple T) rfl) a_nil))))))) (show _ = false from rfl)) (fun h => by cases h) (fun _ => j_nil ?_)
      refine j_if (evt_is (t_eqD hr.units (.same (.tup (ws.map wsD))) (.same (.tup [])) (okD_ws ws) (j := 1) rfl (e_ixT (ds := [.str "test", .tup (ws.map wsD), .tup (pDs bd)]) rfl (e_v 1 rfl) e_int) (e_tup a_nil)) (?_ : _ = false)) (fun h => by cases h) (fun _ => j_nil ?_)
      · cases ws with
        | nil => cases n1
        | cons a r => exact eqv_nil _ _
      refine j_ret (d := .bl true) (ev_is (e_all (bs := ws.map fun _ => true) .fz (b_all T) (a_cons (ev_is (e_fz (n_lcP (own := [("wish", 3)]) (fun _ => .bl true) (k_tup (ds := ws.map wsD) (e_ixT (ds := [.str "test", .tup (ws.map wsD), .tup (pDs bd)]) rfl (e_v 1 rfl) e_int)) (fun s H C cl fp => tg_n 3) (by decide) (fun i x hx => ?_) (by rw [List.length_map]; omega))) (by rw [List.map_map, List.map_map]; rfl)) a_nil)) (by simp)) q
      rw [List.getElem?_map] at hx
      obtain ⟨v, hv, rfl⟩ := Option.map_eq_some_iff.mp hx
      exact ⟨_, rfl, fun N hN s H C cl fp => e_call (ok_is_test_wish T) hr (a_cons (e_fld (e_v 0 rfl) (.mu (hN _ _ hM)) (c_Builder T) (n_Builder_home T) rfl) (a_cons (e_v 2 rfl) (a_cons (e_v 3 rfl) a_nil))) fun Q q => ⟨mk, nu, o, v, rfl, by omega, ho, n3 v (List.mem_of_getElem? hv), q⟩⟩
  | rnd n1 sp lo hi l1 h1 s1 bd =>
    exact j_if (evt_is (t_w (w_or (t_not (t_val (e_isi (.inl ⟨"tuple", rfl, rfl⟩) (clD_plain (x := pD (.rnd n1 sp lo hi l1 h1 s1 bd)) rfl) (kit_tup rfl) (b_isinstance T) (a_cons (e_v 1 rfl) (a_cons (e_ty (b_tuple T) rfl) a_nil))))) fun _ => w_or (M1 := M) (t_neI (e_lenT (ds := [.str "round", .str n1, gsD l1, gsD h1, stD s1, .tup (pDs bd)]) (b_len T) (a_cons (e_v 1 rfl) a_nil)) e_int) (r := false) fun h => by cases h)) (show _ = true from rfl)) (fun _ => j_ret (d := .bl false) e_bl q) (fun h => by cases h)
theorem rnd_o {mk nu : List Bx} {k o : Nat} {n : Str} {sp : Nat} {lo hi : Int} {l h : List (List Bd)} {s : Option Bd} {b : List Nd} (hn : okNd mk nu (k + 1) o (.rnd n sp lo hi l h s b)) : o < mk.length := (List.getElem?_eq_some_iff.mp hn.2.1).1
def sp_Builder_is_round (K : PySem.W.Frag) : SpD := fun ds M Q => ∃ b : Addr, ∃ mk nu : List Bx, ∃ c k o : Nat, ∃ nd : Nd, ds = [.obj b, pD nd, .int (o : Int)] ∧ M b = some (.ins (He.ga K "Builder") (bfD K mk nu c)) ∧ okFr mk nu ∧ okNd mk nu k o nd ∧ o ≤ mk.length ∧ isDeedN nd = false ∧ isTestN nd = false ∧ Q (.bl true) M
theorem mono_Builder_is_round {K : PySem.W.Frag} : ∀ ds M (Q Q' : D → Mem → Prop), (∀ d M', Q d M' → Q' d M') → sp_Builder_is_round K ds M Q → sp_Builder_is_round K ds M Q' := by
  rintro ds M Q Q' hQQ ⟨b, mk, nu, c, k, o, nd, e, hM, hf, hn, ho, nn, nt, q⟩
  exact ⟨b, mk, nu, c, k, o, nd, e, hM, hf, hn, ho, nn, nt, (by first | exact hQQ _ _ q | exact fun M' a b => hQQ _ _ (q M' a b) | exact fun d M' a => hQQ _ _ (q d M' a) | exact fun M' a => hQQ _ _ (q M' a))⟩
theorem ok_Builder_is_round (T : Top K mg) : Mt P w K mg base 6 (He.ga K "Builder") "is_round" ["self", "thing", "opened"] [] (sp_Builder_is_round K) := by
  obtain ⟨fd, F⟩ := F_Builder_is_round T
  refine mt_mk (fn_ok F sc_Builder_is_round (by rintro ds M Q ⟨_, _, _, _, _, _, _, rfl, _⟩; rfl) (by decide) fun cdv A outer s H E hr ds M Q hs => ?_) (c_Builder T) (m_Builder_is_round T) (F.bindsN fun _ _ _ _ _ _ us hl => match us, hl with | [_, _, _], _ => rfl)
  obtain ⟨b, mk, nu, c, k, o, nd, rfl, hM, hf, hn, ho, nn, nt, q⟩ := hs
  have hnd := sc_Builder_is_round.nd
  show Jss _ [some (.obj b), some (pD nd), some (.int (o : Int))] M (_ :: _) _
  have f1 := hf.m2
  have f2 := hf.n2
  cases nd with
  | deed w1 => cases nn
  | test ws bd => cases nt
  | rnd n1 sp lo hi l1 h1 s1 bd =>
    cases k with
    | zero => exact hn.elim
    | succ k =>
      have hlt := rnd_o hn
      obtain ⟨m1, m2, m3, m4, m5, m6, m7⟩ := hn
      refine j_if (evt_is (t_w (w_or (t_not (t_val (e_isi (.inl ⟨"tuple", rfl, rfl⟩) (clD_plain (x := pD (.rnd n1 sp lo hi l1 h1 s1 bd)) rfl) (kit_tup rfl) (b_isinstance T) (a_cons (e_v 1 rfl) (a_cons (e_ty (b_tuple T) rfl) a_nil))))) fun _ => w_or (t_neI (e_lenT (ds := [.str "round", .str n1, gsD l1, gsD h1, stD s1, .tup (pDs bd)]) (b_len T) (a_cons (e_v 1 rfl) a_nil)) e_int) fun _ => w_one (t_neS (e_ixT (ds := [.str "round", .str n1, gsD l1, gsD h1, stD s1, .tup (pDs bd)]) (d := .str "round") rfl (e_v 1 rfl) e_int) e_str))) (show _ = false from rfl)) (fun h => by cases h) (fun _ => j_nil ?_)
      refine j_if (evt_is (t_w (w_or (t_eqI (e_v 2 rfl) (e_lenL .fz (b_len T) (a_cons (e_fld (e_v 0 rfl) (.mu hM) (c_Builder T) (n_Builder_marks_told T) rfl) a_nil))) fun _ => w_one (t_neS (e_ixT (ds := [.str "round", .str n1, gsD l1, gsD h1, stD s1, .tup (pDs bd)]) (d := .str n1) rfl (e_v 1 rfl) e_int) (e_ixL .fz (atI_nat (d := .str n1) (by unfold nmD; rw [List.getElem?_map, m2]; rfl)) (e_fld (e_v 0 rfl) (.mu hM) (c_Builder T) (n_Builder_marks_told T) rfl) (e_v 2 rfl))))) (?_ : _ = false)) (fun h => by cases h) (fun _ => j_nil ?_)
      · unfold nmD
        rw [List.length_map, decide_eq_false (by omega), decide_eq_true rfl]
        rfl
      refine j_if (evt_is (t_w (w_or (t_not (t_val (e_call (ok_are_groups T) hr (a_cons (e_fld (e_v 0 rfl) (.mu hM) (c_Builder T) (n_Builder_home T) rfl) (a_cons (e_v 2 rfl) (a_cons (e_ixT (ds := [.str "round", .str n1, gsD l1, gsD h1, stD s1, .tup (pDs bd)]) (d := gsD l1) rfl (e_v 1 rfl) e_int) a_nil))) fun Q q => ⟨mk, nu, o, l1, rfl, by omega, ho, m3, q⟩))) fun _ => w_one (t_not (t_val (e_call (ok_are_groups T) hr (a_cons (e_fld (e_v 0 rfl) (.mu hM) (c_Builder T) (n_Builder_home T) rfl) (a_cons (e_v 2 rfl) (a_cons (e_ixT (ds := [.str "round", .str n1, gsD l1, gsD h1, stD s1, .tup (pDs bd)]) (d := gsD h1) rfl (e_v 1 rfl) e_int) a_nil))) fun Q q => ⟨mk, nu, o, h1, rfl, by omega, ho, m4, q⟩))))) (show _ = false from rfl)) (fun h => by cases h) (fun _ => j_nil ?_)
      exact j_ret (e_call (ok_is_step T) hr (a_cons (e_fld (e_v 0 rfl) (.mu hM) (c_Builder T) (n_Builder_home T) rfl) (a_cons (e_v 2 rfl) (a_cons (e_ixT (ds := [.str "round", .str n1, gsD l1, gsD h1, stD s1, .tup (pDs bd)]) (d := stD s1) rfl (e_v 1 rfl) e_int) a_nil))) fun Q q => ⟨mk, nu, o, s1, rfl, by omega, hlt, m5, q⟩) q
end H

set_option Elab.async false
set_option linter.all false
set_option maxRecDepth 100000
set_option maxHeartbeats 4000000
namespace H
open PySem PySem.Spec PyProof.Rows L2 PR
variable {P : Program} {w : World} {K : PySem.W.Frag} {mg : Str → Option Value} {base : Heap}
def sp_body_of (K : PySem.W.Frag) (kk : Nat) : SpD := fun ds M Q => ∃ b : Addr, ∃ mk nu : List Bx, ∃ c k o dp : Nat, ∃ bd : List Nd, ds = [.obj b, .tup (pDs bd), .int (o : Int), .int (dp : Int)] ∧ M b = some (.ins (He.ga K "Builder") (bfD K mk nu c)) ∧ okFr mk nu ∧ bd.length ≤ 60 ∧ (∀ n ∈ bd, okNd mk nu k o n) ∧ o ≤ mk.length ∧ dp + 1 + k ≤ 11 ∧ c + szs bd ≤ 250 ∧ k = kk ∧ Q (.lst (nDs K bd)) (M.put b (.ins (He.ga K "Builder") (bfD K mk nu (c + szs bd))))
theorem mono_body_of {K : PySem.W.Frag} {kk : Nat} : ∀ ds M (Q Q' : D → Mem → Prop), (∀ d M', Q d M' → Q' d M') → sp_body_of K kk ds M Q → sp_body_of K kk ds M Q' := by
  rintro ds M Q Q' hQQ ⟨b, mk, nu, c, k, o, dp, bd, e, hM, hf, hl, hn, ho, hd, hc, hk, q⟩
  exact ⟨b, mk, nu, c, k, o, dp, bd, e, hM, hf, hl, hn, ho, hd, hc, hk, (by first | exact hQQ _ _ q | exact fun M' a b => hQQ _ _ (q M' a b) | exact fun d M' a => hQQ _ _ (q d M' a) | exact fun M' a => hQQ _ _ (q M' a))⟩
def sp_node_of (K : PySem.W.Frag) (kk : Nat) : SpD := fun ds M Q => ∃ b : Addr, ∃ mk nu : List Bx, ∃ c k o dp : Nat, ∃ nd : Nd, ds = [.obj b, pD nd, .int (o : Int), .int (dp : Int)] ∧ M b = some (.ins (He.ga K "Builder") (bfD K mk nu c)) ∧ okFr mk nu ∧ okNd mk nu k o nd ∧ o ≤ mk.length ∧ dp + k ≤ 11 ∧ c + sz nd ≤ 250 ∧ k = kk ∧ Q (nD K nd) (M.put b (.ins (He.ga K "Builder") (bfD K mk nu (c + sz nd))))
theorem mono_node_of {K : PySem.W.Frag} {kk : Nat} : ∀ ds M (Q Q' : D → Mem → Prop), (∀ d M', Q d M' → Q' d M') → sp_node_of K kk ds M Q → sp_node_of K kk ds M Q' := by
  rintro ds M Q Q' hQQ ⟨b, mk, nu, c, k, o, dp, nd, e, hM, hf, hn, ho, hd, hc, hk, q⟩
  exact ⟨b, mk, nu, c, k, o, dp, nd, e, hM, hf, hn, ho, hd, hc, hk, (by first | exact hQQ _ _ q | exact fun M' a b => hQQ _ _ (q M' a b) | exact fun d M' a => hQQ _ _ (q d M' a) | exact fun M' a => hQQ _ _ (q M' a))⟩

theorem nds_range (K : PySem.W.Frag) (bd : List Nd) : (List.range (pDs bd).length).map (fun i => nD K (bd.getD i (.deed ""))) = nDs K bd := by
  rw [nDs_map, pDs_map, List.length_map]
  apply List.ext_getElem?
  intro i
  rw [List.getElem?_map, List.getElem?_map]
  by_cases h : i < bd.length
  · rw [List.getElem?_range h, List.getElem?_eq_getElem h]
    simp [List.getD_eq_getElem?_getD, List.getElem?_eq_getElem h]
  · rw [List.getElem?_eq_none (by simpa using h), List.getElem?_eq_none (by omega)]
    rfl
theorem ok_body_of (T : Top K mg) (k : Nat) (hN : Mt P w K mg base (2 * k + 10) (He.ga K "Builder") "node_of" ["self", "thing", "opened", "deep"] [] (sp_node_of K k)) : Mt P w K mg base (2 * k + 11) (He.ga K "Builder") "body_of" ["self", "things", "opened", "deep"] [] (sp_body_of K k) := by
  obtain ⟨fd, F⟩ := F_Builder_body_of T
  refine mt_mk (k := 2 * k + 10 + 1) (fn_ok (sp := sp_body_of K k) F sc_Builder_body_of (by rintro ds M Q ⟨_, _, _, _, _, _, _, _, rfl, _⟩; rfl) (by decide) fun cdv A outer s H E hr ds M Q hs => ?_) (c_Builder T) (m_Builder_body_of T) (F.bindsN fun _ _ _ _ _ _ us hl => match us, hl with | [_, _, _, _], _ => rfl)
  obtain ⟨b, mk, nu, c, k, o, dp, bd, rfl, hM, hf, hl, hn, ho, hd, hc, rfl, q⟩ := hs
  have hnd := sc_Builder_body_of.nd
  obtain ⟨tk1, hT⟩ := i_MOST_THINGS T
  show Jss _ [some (.obj b), some (.tup (pDs bd)), some (.int (o : Int)), some (.int (dp : Int)), none] M (_ :: _) _
  have hpl : (pDs bd).length = bd.length := by rw [pDs_map, List.length_map]
  refine j_if (evt_is (t_w (w_or (t_not (t_val (e_isi (.inl ⟨"tuple", rfl, rfl⟩) (clD_plain (x := .tup (pDs bd)) rfl) (kit_tup rfl) (b_isinstance T) (a_cons (e_v 1 rfl) (a_cons (e_ty (b_tuple T) rfl) a_nil))))) fun _ => w_one (t_gt (e_lenT (b_len T) (a_cons (e_v 1 rfl) a_nil)) (e_gi hT)))) (?_ : _ = false)) (fun h => by cases h) (fun _ => j_nil ?_)
  · rw [hpl, decide_eq_false (by omega)]
    rfl
  refine j_ret (ev_is (e_fz (n_lcO (bx := b) (own := [("thing", 4)]) (fun i => MO.ins (He.ga K "Builder") (bfD K mk nu (c + szs (bd.take i)))) (fun i => nD K (bd.getD i (.deed ""))) (k_tup (e_v 1 rfl)) (fun s H C cl fp => tg_n 4) (by decide) (by simpa [szs] using hM) (fun i x hx => ?_) (by rw [hpl]; omega))) (by rw [nds_range])) ?_
  · rw [pDs_map, List.getElem?_map] at hx
    obtain ⟨n, hni, rfl⟩ := Option.map_eq_some_iff.mp hx
    refine ⟨_, rfl, fun N hNe s H C cl fp => ?_⟩
    have e : bd.getD i (.deed "") = n := by rw [List.getD_eq_getElem?_getD, hni]; rfl
    have hsz := szs_take bd hni
    have hle := szs_le bd (i + 1)
    rw [e]
    refine e_meth hN hr (e_v 0 rfl) (.mu (hNe _ _ put_same)) rfl (a_cons (e_v 4 rfl) (a_cons (e_v 2 rfl) (a_cons (e_add (e_v 3 rfl) e_int) a_nil))) fun Q q => ⟨b, mk, nu, c + szs (bd.take i), k, o, dp + 1, n, by push_cast; rfl, hNe _ _ put_same, hf, hn n (List.mem_of_getElem? hni), ho, hd, by omega, rfl, ?_⟩
    rw [Nat.add_assoc, ← hsz]
    exact q
  · rw [hpl, List.take_length]
    exact q
theorem ok_node_of (T : Top K mg) (k : Nat) (hB : ∀ j, k = j + 1 → Mt P w K mg base (2 * j + 11) (He.ga K "Builder") "body_of" ["self", "things", "opened", "deep"] [] (sp_body_of K j)) : Mt P w K mg base (2 * k + 10) (He.ga K "Builder") "node_of" ["self", "thing", "opened", "deep"] [] (sp_node_of K k) := by
  obtain ⟨fd, F⟩ := F_Builder_node_of T
  refine mt_mk (k := 2 * k + 9 + 1) (fn_ok (sp := sp_node_of K k) F sc_Builder_node_of (by rintro ds M Q ⟨_, _, _, _, _, _, _, _, rfl, _⟩; rfl) (by decide) fun cdv A outer s H E hr ds M Q hs => ?_) (c_Builder T) (m_Builder_node_of T) (F.bindsN fun _ _ _ _ _ _ us hl => match us, hl with | [_, _, _, _], _ => rfl)
  obtain ⟨b, mk, nu, c, k, o, dp, nd, rfl, hM, hf, hn, ho, hd, hc, rfl, q⟩ := hs
  have hnd := sc_Builder_node_of.nd
  cases k with
  | zero => exact hn.elim
  | succ k =>
    have hB := hB k rfl
    have hr' : Room (2 * k + 11) (A.deeper _) := hr.mono (by omega)
    obtain ⟨tk1, hT⟩ := i_MOST_NODES T
    obtain ⟨tk2, hT2⟩ := i_MOST_DEEP T
    show Jss _ [some (.obj b), some (pD nd), some (.int (o : Int)), some (.int (dp : Int)), none] M (_ :: _) _
    refine j_fld (e_add (e_fld (e_v 0 rfl) (.mu hM) (c_Builder T) (n_Builder_count T) rfl) e_int) (e_v 0 rfl) hM (c_Builder T) (n_Builder_count T) (Nat.le_of_ble_eq_true rfl) ?_
    show Jss _ _ (M.put b (.ins (He.ga K "Builder") (bfD K mk nu (c + 1)))) _ _
    have h1 : (M.put b (.ins (He.ga K "Builder") (bfD K mk nu (c + 1)))) b = some (.ins (He.ga K "Builder") (bfD K mk nu (c + 1))) := put_same
    have hsz : 1 ≤ sz nd := by cases nd <;> simp [sz]
    refine j_if (evt_is (t_w (w_or (t_gt (e_fld (e_v 0 rfl) (.mu h1) (c_Builder T) (n_Builder_count T) rfl) (e_gi hT)) fun _ => w_one (t_gt (e_v 3 rfl) (e_gi hT2)))) (?_ : _ = false)) (fun h => by cases h) (fun _ => j_nil ?_)
    · rw [decide_eq_false (by omega), decide_eq_false (by omega)]
      rfl
    have hD : ∀ Q : D → Mem → Prop, Q (.bl (isDeedN nd)) _ → sp_Builder_is_deed K [.obj b, pD nd, .int (o : Int)] _ Q := fun Q q => ⟨b, mk, nu, c + 1, k + 1, o, nd, rfl, h1, hf, hn, ho, q⟩
    cases nd with
    | deed w1 =>
      refine j_if (t_val (e_meth (ok_Builder_is_deed T) (hr.mono (by omega)) (e_v 0 rfl) (.mu h1) rfl (a_cons (e_v 1 rfl) (a_cons (e_v 2 rfl) a_nil)) hD)) (fun _ => ?_) (fun h => by cases h)
      exact j_ret (e_make (ok_Deed___init__ T) (hr.mono (by omega)) (a_cons (e_ixT (ds := [.str "deed", .str w1]) (d := .str w1) rfl (e_v 1 rfl) e_int) a_nil) (fun x hx Q q => ⟨x, w1, rfl, put_same, fun M' a b => q M' (a.le hx) b⟩) mono_Deed___init__) q
    | test ws bd =>
      obtain ⟨n1, n2, n3, n4, n5⟩ := hn
      refine j_if (t_val (e_meth (ok_Builder_is_deed T) (hr.mono (by omega)) (e_v 0 rfl) (.mu h1) rfl (a_cons (e_v 1 rfl) (a_cons (e_v 2 rfl) a_nil)) hD)) (fun h => by cases h) (fun _ => j_nil ?_)
      refine j_if (t_val (e_meth (ok_Builder_is_test T) (hr.mono (by omega)) (e_v 0 rfl) (.mu h1) rfl (a_cons (e_v 1 rfl) (a_cons (e_v 2 rfl) a_nil)) fun Q q => ⟨b, mk, nu, c + 1, k + 1, o, .test ws bd, rfl, h1, hf, ⟨n1, n2, n3, n4, n5⟩, ho, rfl, q⟩)) (fun _ => ?_) (fun h => by cases h)
      have hc2 : c + (1 + szs bd) ≤ 250 := hc
      refine j_ret (e_make (ok_Test___init__ T) (hr.mono (by omega)) (a_cons (e_ixT (ds := [.str "test", .tup (ws.map wsD), .tup (pDs bd)]) rfl (e_v 1 rfl) e_int) (a_cons (e_meth hB hr' (e_v 0 rfl) (.mu h1) rfl (a_cons (e_ixT (ds := [.str "test", .tup (ws.map wsD), .tup (pDs bd)]) rfl (e_v 1 rfl) e_int) (a_cons (e_v 2 rfl) (a_cons (e_v 3 rfl) a_nil))) fun Q q => ⟨b, mk, nu, c + 1, k, o, dp, bd, rfl, h1, hf, n4, n5, ho, by omega, by omega, rfl, q⟩) a_nil)) (fun x hx Q q => ⟨x, _, _, rfl, put_same, fun M' a b => q M' (a.le hx) b⟩) mono_Test___init__) ?_
      rw [put_put, Nat.add_assoc]
      exact q
    | rnd n1 sp lo hi l1 g1 s1 bd =>
      have hlt := rnd_o hn
      have hn0 := hn
      obtain ⟨m1, m2, m3, m4, m5, m6, m7⟩ := hn
      refine j_if (t_val (e_meth (ok_Builder_is_deed T) (hr.mono (by omega)) (e_v 0 rfl) (.mu h1) rfl (a_cons (e_v 1 rfl) (a_cons (e_v 2 rfl) a_nil)) hD)) (fun h => by cases h) (fun _ => j_nil ?_)
      refine j_if (t_val (e_meth (ok_Builder_is_test T) (hr.mono (by omega)) (e_v 0 rfl) (.mu h1) rfl (a_cons (e_v 1 rfl) (a_cons (e_v 2 rfl) a_nil)) fun Q q => ⟨b, mk, nu, c + 1, k + 1, o, .rnd n1 sp lo hi l1 g1 s1 bd, rfl, h1, hf, hn0, ho, rfl, q⟩)) (fun h => by cases h) (fun _ => j_nil ?_)
      refine j_if (t_val (e_meth (ok_Builder_is_round T) (hr.mono (by omega)) (e_v 0 rfl) (.mu h1) rfl (a_cons (e_v 1 rfl) (a_cons (e_v 2 rfl) a_nil)) fun Q q => ⟨b, mk, nu, c + 1, k + 1, o, .rnd n1 sp lo hi l1 g1 s1 bd, rfl, h1, hf, hn0, ho, rfl, rfl, q⟩)) (fun _ => ?_) (fun h => by cases h)
      have hc2 : c + (1 + szs bd) ≤ 250 := hc
      refine j_set 4 (e_meth hB hr' (e_v 0 rfl) (.mu h1) rfl (a_cons (e_ixT (ds := [.str "round", .str n1, gsD l1, gsD g1, stD s1, .tup (pDs bd)]) rfl (e_v 1 rfl) e_int) (a_cons (e_add (e_v 2 rfl) e_int) (a_cons (e_v 3 rfl) a_nil))) fun Q q => ⟨b, mk, nu, c + 1, k, o + 1, dp, bd, by push_cast; rfl, h1, hf, m6, m7, by omega, by omega, by omega, rfl, q⟩) ?_
      obtain ⟨a1, a2, a3⟩ := name_at hf m2
      have hfew := hf.few
      have e2 : c + 1 + szs bd = c + (1 + szs bd) := by omega
      rw [put_put, e2]
      refine j_ret (d := nD K (.rnd n1 sp lo hi l1 g1 s1 bd)) (e_make (ok_Round___init__ T) (hr.mono (by omega)) (a_cons (e_v 2 rfl) (a_cons (e_meth (ok_Frame_box T) (hr.mono (by omega)) (e_fld (e_v 0 rfl) (.mu put_same) (c_Builder T) (n_Builder_home T) rfl) .fz rfl (a_cons (e_ixT (ds := [.str "round", .str n1, gsD l1, gsD g1, stD s1, .tup (pDs bd)]) (d := .str n1) rfl (e_v 1 rfl) e_int) a_nil) fun Q q => ⟨mk, nu, n1, o, (n1, lo, hi), rfl, hfew, a1, a2, a3, q⟩) (a_cons (e_v 1 rfl) (a_cons (e_v 4 rfl) a_nil)))) (fun x hx Q q => ⟨x, (o : Int), lo, hi, _, _, _, _, _, _, _, rfl, put_same, fun M' a b => q M' (a.le hx) (by rw [m1]; exact b)⟩) mono_Round___init__) q
theorem ok_build (T : Top K mg) : ∀ k, Mt P w K mg base (2 * k + 11) (He.ga K "Builder") "body_of" ["self", "things", "opened", "deep"] [] (sp_body_of K k)
  | 0 => ok_body_of T 0 (ok_node_of T 0 fun j e => by omega)
  | k + 1 => ok_body_of T (k + 1) (ok_node_of T (k + 1) fun j e => by
    cases e
    exact ok_build T k)
/-! ### programs -/
def pgF (K : PySem.W.Frag) (mk nu : List Bx) (ps : List Nd) : List (Str × D) := [("home", frD K mk nu), ("nodes", .lst (nDs K ps)), ("told_parts", .tup (pDs ps)), ("count", .int (szs ps : Int))]
def pgD (K : PySem.W.Frag) (mk nu : List Bx) (ps : List Nd) : D := .ins (He.ga K "Program") (pgF K mk nu ps)
structure okPg (mk nu : List Bx) (ps : List Nd) : Prop where
  fr : okFr mk nu
  few : ps.length ≤ 60
  nds : ∀ n ∈ ps, okNd mk nu 10 0 n
  size : szs ps ≤ 250

def sp_Program___init__ (K : PySem.W.Frag) : SpD := fun ds M Q => ∃ x : Addr, ∃ mk nu : List Bx, ∃ ps : List Nd, ds = [.obj x, frD K mk nu, .tup (pDs ps)] ∧ M x = some (.ins (He.ga K "Program") []) ∧ okPg mk nu ps ∧ ∀ M', Ex x M M' → M' x = some (.ins (He.ga K "Program") (pgF K mk nu ps)) → Q .non M'
theorem mono_Program___init__ {K : PySem.W.Frag} : ∀ ds M (Q Q' : D → Mem → Prop), (∀ d M', Q d M' → Q' d M') → sp_Program___init__ K ds M Q → sp_Program___init__ K ds M Q' := by
  rintro ds M Q Q' hQQ ⟨x, mk, nu, ps, e, hx, hp, q⟩
  exact ⟨x, mk, nu, ps, e, hx, hp, (by first | exact hQQ _ _ q | exact fun M' a b => hQQ _ _ (q M' a b) | exact fun d M' a => hQQ _ _ (q d M' a) | exact fun M' a => hQQ _ _ (q M' a))⟩
theorem ok_Program___init__ (T : Top K mg) : Cg P w K mg base 33 "Program" (He.ga K "Program") ["self", "frame", "parts"] [] (sp_Program___init__ K) := by
  obtain ⟨fd, F⟩ := F_Program___init__ T
  refine cg_mk (fn_ok F sc_Program___init__ (by rintro ds M Q ⟨_, _, _, _, rfl, _⟩; rfl) (by decide) fun cdv A outer s H E hr ds M Q hs => ?_) (g_Program T) (k_Program T) (F.bindsN fun _ _ _ _ _ _ us hl => match us, hl with | [_, _, _], _ => rfl)
  obtain ⟨x, mk, nu, ps, rfl, hx, hp, q⟩ := hs
  have hnd := sc_Program___init__.nd
  show Jss _ [some (.obj x), some (frD K mk nu), some (.tup (pDs ps)), none] M (_ :: _) _
  have hf := hp.fr
  have hfew := hf.few
  refine j_expr (d := .non) (e_call (ok_need_frame T) (hr.mono (by decide)) (a_cons (e_v 1 rfl) a_nil) fun Q q => ⟨mk, nu, rfl, q⟩) ?_
  refine j_setP 3 (e_makeP (P := fun d M' => ∃ b, d = .obj b ∧ M b = none ∧ Ex b M M' ∧ M' b = some (.ins (He.ga K "Builder") (bfD K mk nu 0))) (ok_Builder___init__ T) (hr.mono (by decide)) (a_cons (e_v 1 rfl) a_nil) (fun b hb => ⟨b, mk, nu, rfl, put_same, hfew, fun M' h1 h2 => ⟨rfl, b, rfl, hb, fun a u ne e => h1 a u ne (by rw [put_ne ne]; exact e), h2⟩⟩) mono_Builder___init__) ?_
  rintro d M1 ⟨b, rfl, hb, hE, hb1⟩
  have ne : x ≠ b := fun z => by rw [z, hb] at hx; cases hx
  have hx1 := hE x _ ne hx
  refine j_fld (e_v 1 rfl) (e_v 0 rfl) hx1 (c_Program T) (n_Program_home T) (by decide) ?_
  refine j_fld (e_meth (ok_build T 10) (hr.mono (by decide)) (e_v 3 rfl) (.mu (by rw [put_ne ne.symm]; exact hb1)) rfl (a_cons (e_v 2 rfl) (a_cons e_int (a_cons e_int a_nil))) fun Q q => ⟨b, mk, nu, 0, 10, 0, 0, ps, rfl, by rw [put_ne ne.symm]; exact hb1, hf, hp.few, hp.nds, by omega, by omega, by have := hp.size; omega, rfl, q⟩) (e_v 0 rfl) (by rw [put_ne ne]; exact put_same) (c_Program T) (n_Program_nodes T) (Nat.le_of_ble_eq_true rfl) ?_
  refine j_fld (e_v 2 rfl) (e_v 0 rfl) put_same (c_Program T) (n_Program_told_parts T) (Nat.le_of_ble_eq_true rfl) ?_
  refine j_fld (e_fld (e_v 3 rfl) (.mu (by rw [put_ne ne.symm, put_ne ne.symm]; exact put_same)) (c_Builder T) (n_Builder_count T) rfl) (e_v 0 rfl) put_same (c_Program T) (n_Program_count T) (Nat.le_of_ble_eq_true rfl) (j_nil ?_)
  refine q _ ?_ ?_
  · intro a u nea e
    have neb : a ≠ b := fun z => by rw [z, hb] at e; cases e
    rw [put_ne nea, put_ne nea, put_ne nea, put_ne neb, put_ne nea]
    exact hE a u neb e
  · rw [put_same, Nat.zero_add]
    rfl
def sp_Program_frame (K : PySem.W.Frag) : SpD := fun ds M Q => ∃ mk nu : List Bx, ∃ ps : List Nd, ds = [pgD K mk nu ps] ∧ Q (frD K mk nu) M
theorem mono_Program_frame {K : PySem.W.Frag} : ∀ ds M (Q Q' : D → Mem → Prop), (∀ d M', Q d M' → Q' d M') → sp_Program_frame K ds M Q → sp_Program_frame K ds M Q' := by
  rintro ds M Q Q' hQQ ⟨mk, nu, ps, e, q⟩
  exact ⟨mk, nu, ps, e, (by first | exact hQQ _ _ q | exact fun M' a b => hQQ _ _ (q M' a b) | exact fun d M' a => hQQ _ _ (q d M' a) | exact fun M' a => hQQ _ _ (q M' a))⟩
theorem ok_Program_frame (T : Top K mg) : Mt P w K mg base 1 (He.ga K "Program") "frame" ["self"] [] (sp_Program_frame K) := by
  obtain ⟨fd, F⟩ := F_Program_frame T
  refine mt_mk (fn_ok F sc_Program_frame (by rintro ds M Q ⟨_, _, _, rfl, _⟩; rfl) (by decide) fun cdv A outer s H E hr ds M Q hs => ?_) (c_Program T) (m_Program_frame T) (F.bindsN fun _ _ _ _ _ _ us hl => match us, hl with | [_], _ => rfl)
  obtain ⟨mk, nu, ps, rfl, q⟩ := hs
  have hnd := sc_Program_frame.nd
  show Jss _ [some (pgD K mk nu ps)] M (_ :: _) _
  exact j_ret (e_fld (e_v 0 rfl) .fz (c_Program T) (n_Program_home T) rfl) q
def sp_Program_parts (K : PySem.W.Frag) : SpD := fun ds M Q => ∃ mk nu : List Bx, ∃ ps : List Nd, ds = [pgD K mk nu ps] ∧ Q (.tup (pDs ps)) M
theorem mono_Program_parts {K : PySem.W.Frag} : ∀ ds M (Q Q' : D → Mem → Prop), (∀ d M', Q d M' → Q' d M') → sp_Program_parts K ds M Q → sp_Program_parts K ds M Q' := by
  rintro ds M Q Q' hQQ ⟨mk, nu, ps, e, q⟩
  exact ⟨mk, nu, ps, e, (by first | exact hQQ _ _ q | exact fun M' a b => hQQ _ _ (q M' a b) | exact fun d M' a => hQQ _ _ (q d M' a) | exact fun M' a => hQQ _ _ (q M' a))⟩
theorem ok_Program_parts (T : Top K mg) : Mt P w K mg base 1 (He.ga K "Program") "parts" ["self"] [] (sp_Program_parts K) := by
  obtain ⟨fd, F⟩ := F_Program_parts T
  refine mt_mk (fn_ok F sc_Program_parts (by rintro ds M Q ⟨_, _, _, rfl, _⟩; rfl) (by decide) fun cdv A outer s H E hr ds M Q hs => ?_) (c_Program T) (m_Program_parts T) (F.bindsN fun _ _ _ _ _ _ us hl => match us, hl with | [_], _ => rfl)
  obtain ⟨mk, nu, ps, rfl, q⟩ := hs
  have hnd := sc_Program_parts.nd
  show Jss _ [some (pgD K mk nu ps)] M (_ :: _) _
  exact j_ret (e_fld (e_v 0 rfl) .fz (c_Program T) (n_Program_told_parts T) rfl) q
def sp_Program_size (K : PySem.W.Frag) : SpD := fun ds M Q => ∃ mk nu : List Bx, ∃ ps : List Nd, ds = [pgD K mk nu ps] ∧ Q (.int (szs ps : Int)) M
theorem mono_Program_size {K : PySem.W.Frag} : ∀ ds M (Q Q' : D → Mem → Prop), (∀ d M', Q d M' → Q' d M') → sp_Program_size K ds M Q → sp_Program_size K ds M Q' := by
  rintro ds M Q Q' hQQ ⟨mk, nu, ps, e, q⟩
  exact ⟨mk, nu, ps, e, (by first | exact hQQ _ _ q | exact fun M' a b => hQQ _ _ (q M' a b) | exact fun d M' a => hQQ _ _ (q d M' a) | exact fun M' a => hQQ _ _ (q M' a))⟩
theorem ok_Program_size (T : Top K mg) : Mt P w K mg base 1 (He.ga K "Program") "size" ["self"] [] (sp_Program_size K) := by
  obtain ⟨fd, F⟩ := F_Program_size T
  refine mt_mk (fn_ok F sc_Program_size (by rintro ds M Q ⟨_, _, _, rfl, _⟩; rfl) (by decide) fun cdv A outer s H E hr ds M Q hs => ?_) (c_Program T) (m_Program_size T) (F.bindsN fun _ _ _ _ _ _ us hl => match us, hl with | [_], _ => rfl)
  obtain ⟨mk, nu, ps, rfl, q⟩ := hs
  have hnd := sc_Program_size.nd
  show Jss _ [some (pgD K mk nu ps)] M (_ :: _) _
  exact j_ret (e_fld (e_v 0 rfl) .fz (c_Program T) (n_Program_count T) rfl) q
def sp_Program_told (K : PySem.W.Frag) : SpD := fun ds M Q => ∃ mk nu : List Bx, ∃ ps : List Nd, ds = [pgD K mk nu ps] ∧ Q (.tup [.tup [.tup (mk.map bxD), .tup (nu.map bxD)], .tup (pDs ps)]) M
theorem mono_Program_told {K : PySem.W.Frag} : ∀ ds M (Q Q' : D → Mem → Prop), (∀ d M', Q d M' → Q' d M') → sp_Program_told K ds M Q → sp_Program_told K ds M Q' := by
  rintro ds M Q Q' hQQ ⟨mk, nu, ps, e, q⟩
  exact ⟨mk, nu, ps, e, (by first | exact hQQ _ _ q | exact fun M' a b => hQQ _ _ (q M' a b) | exact fun d M' a => hQQ _ _ (q d M' a) | exact fun M' a => hQQ _ _ (q M' a))⟩
theorem ok_Program_told (T : Top K mg) : Mt P w K mg base 2 (He.ga K "Program") "told" ["self"] [] (sp_Program_told K) := by
  obtain ⟨fd, F⟩ := F_Program_told T
  refine mt_mk (fn_ok F sc_Program_told (by rintro ds M Q ⟨_, _, _, rfl, _⟩; rfl) (by decide) fun cdv A outer s H E hr ds M Q hs => ?_) (c_Program T) (m_Program_told T) (F.bindsN fun _ _ _ _ _ _ us hl => match us, hl with | [_], _ => rfl)
  obtain ⟨mk, nu, ps, rfl, q⟩ := hs
  have hnd := sc_Program_told.nd
  show Jss _ [some (pgD K mk nu ps)] M (_ :: _) _
  exact j_ret (e_tup (a_cons (e_meth0 (ok_Frame_told T) hr (e_fld (e_v 0 rfl) .fz (c_Program T) (n_Program_home T) rfl) .fz rfl fun Q q => ⟨mk, nu, rfl, q⟩) (a_cons (e_fld (e_v 0 rfl) .fz (c_Program T) (n_Program_told_parts T) rfl) a_nil))) q
end H


set_option Elab.async false
set_option linter.all false
set_option maxRecDepth 100000
set_option maxHeartbeats 4000000
namespace H
open PySem PySem.Spec PyProof.Rows L2 PR
variable {P : Program} {w : World} {K : PySem.W.Frag} {mg : Str → Option Value} {base : Heap}

/-! ### the law's box -/
theorem atI_nat_i {s : List Int} {i : Nat} (h : i < s.length) : L2.atI s (i : Int) = some (s.getD i 0) := by
  unfold L2.atI L2.ixN
  rw [if_pos (by omega), if_pos (by omega)]
  simp [List.getD_eq_getElem?_getD, List.getElem?_eq_getElem h]
structure Bs where
  d : Int
  m : Int
  c : Int
def bsD (s : Bs) : List D := [.int s.d, .int s.m, .int s.c]
def bsM (s : Bs) : MO := .lst (bsD s)
def tkC (s : Bs) : Int := s.c + 1
def tkX (s : Bs) : Int := (s.m + 7919 * tkC s + 17) ^ 5 % 2147483647
def tkY (s : Bs) : Int := (tkX s + 104729 * tkC s) ^ 3 % 2147483629
def tk (s : Bs) (n : Int) : Int × Bs := if 0 < s.d then (s.d % n, ⟨s.d / n, s.m, s.c⟩) else (tkY s / 8 % n, ⟨s.d, s.m, tkC s⟩)
structure okB (k : Nat) (s : Bs) : Prop where
  d : 0 ≤ s.d
  m : 0 ≤ s.m
  m2 : s.m < 2147483629
  c : 0 ≤ s.c
  c2 : s.c ≤ k
theorem okB.mono {j k : Nat} {s : Bs} (h : okB j s) (e : j ≤ k) : okB k s := ⟨h.d, h.m, h.m2, h.c, by have := h.c2; omega⟩
theorem tk_ok {k : Nat} {s : Bs} {n : Int} (h : okB k s) (hn : 1 ≤ n) : okB (k + 1) (tk s n).2 := by
  have := h.d
  have := h.c
  have := h.c2
  unfold tk tkC
  split
  · exact ⟨Int.ediv_nonneg h.d (by omega), h.m, h.m2, h.c, by show s.c ≤ _; omega⟩
  · exact ⟨h.d, h.m, h.m2, by show 0 ≤ s.c + 1; omega, by show s.c + 1 ≤ _; omega⟩
theorem tk_ge {s : Bs} {n : Int} (hn : 1 ≤ n) : 0 ≤ (tk s n).1 := by
  unfold tk
  split
  · exact Int.emod_nonneg _ (by omega)
  · exact Int.emod_nonneg _ (by omega)
theorem tk_lt {s : Bs} {n : Int} (hn : 1 ≤ n) : (tk s n).1 < n := by
  unfold tk
  split
  · exact Int.emod_lt_of_pos _ (by omega)
  · exact Int.emod_lt_of_pos _ (by omega)
def cellF (ns : List Int) (k : Nat) : Int := if k < ns.length then ns.getD k 0 else 7919 * (k : Int) + 31
def boxF (c : Int) : Bs := ⟨max 0 c * PR.b2i (decide (10 ^ 18 ≤ c)), c % 2147483629, 0⟩
theorem boxF_ok (c : Int) : okB 0 (boxF c) := by
  refine ⟨?_, Int.emod_nonneg _ (by decide), Int.emod_lt_of_pos _ (by decide), Int.le_refl _, Int.le_refl _⟩
  show 0 ≤ max 0 c * PR.b2i (decide (10 ^ 18 ≤ c))
  refine Int.mul_nonneg (by omega) ?_
  unfold PR.b2i
  split <;> decide
/-- a pick of a list of numbers -/
def pk (xs : List Int) (r : Int) : Int := xs.getD r.toNat 0
theorem atI_pk {xs : List Int} {r : Int} (h1 : 0 ≤ r) (h2 : r < xs.length) : L2.atI (xs.map D.int) r = some (.int (pk xs r)) := by
  obtain ⟨n, rfl⟩ := Int.eq_ofNat_of_zero_le h1
  refine atI_nat (i := n) ?_
  have hn : n < xs.length := by omega
  rw [List.getElem?_map, List.getElem?_eq_getElem hn]
  unfold pk
  show some (D.int _) = some (D.int (xs.getD n 0))
  rw [List.getD_eq_getElem?_getD, List.getElem?_eq_getElem hn]
  rfl

def sp__law_cell (K : PySem.W.Frag) : SpD := fun ds M Q => ∃ ns : List Int, ∃ k : Nat, ds = [.scr ns, .int (k : Int)] ∧ k ≤ 1000000 ∧ Q (.int (cellF ns k)) M
theorem mono__law_cell {K : PySem.W.Frag} : ∀ ds M (Q Q' : D → Mem → Prop), (∀ d M', Q d M' → Q' d M') → sp__law_cell K ds M Q → sp__law_cell K ds M Q' := by
  rintro ds M Q Q' hQQ ⟨ns, k, e, hk, q⟩
  exact ⟨ns, k, e, hk, (by first | exact hQQ _ _ q | exact fun M' a b => hQQ _ _ (q M' a b) | exact fun d M' a => hQQ _ _ (q d M' a) | exact fun M' a => hQQ _ _ (q M' a) | exact fun M' a b c => hQQ _ _ (q M' a b c) | exact fun M' a b c d => hQQ _ _ (q M' a b c d) | exact fun M' a b c d e => hQQ _ _ (q M' a b c d e))⟩
theorem ok__law_cell (T : Top K mg) : Fg P w K mg base 1 "_law_cell" ["_law_script", "_law_k"] [] (sp__law_cell K) := by
  obtain ⟨fd, F⟩ := F__law_cell T
  refine fg_mk (fn_ok F sc__law_cell (by rintro ds M Q ⟨_, _, rfl, _⟩; rfl) (by decide) fun cdv A outer s H E hr ds M Q hs => ?_) (g__law_cell T) F.kp (F.bindsN fun _ _ _ _ _ _ us hl => match us, hl with | [_, _], _ => rfl)
  obtain ⟨ns, k, rfl, hk, q⟩ := hs
  have hnd := sc__law_cell.nd
  show Jss _ [some (.scr ns), some (.int (k : Int))] M (_ :: _) _
  refine j_if (t_lt (e_v 1 rfl) (e_lenScr (b_len T) (a_cons (e_v 0 rfl) a_nil))) (fun h => ?_) (fun h => j_nil ?_)
  · have hlt : k < ns.length := by have := of_decide_eq_true h; omega
    refine j_ret (d := .int (ns.getD k 0)) (e_ixScr (atI_nat_i hlt) (e_v 0 rfl) (e_v 1 rfl)) ?_
    unfold cellF at q
    rw [if_pos hlt] at q
    exact q
  · have hlt : ¬ k < ns.length := by have := of_decide_eq_false h; omega
    refine j_ret (e_add (e_mul (.inl ⟨by decide, by decide⟩) e_int (e_v 1 rfl)) e_int) ?_
    unfold cellF at q
    rw [if_neg hlt] at q
    exact q
def sp__law_box (K : PySem.W.Frag) : SpD := fun ds M Q => ∃ c : Int, ds = [.int c] ∧ ∀ b, M b = none → Q (.obj b) (M.put b (bsM (boxF c)))
theorem mono__law_box {K : PySem.W.Frag} : ∀ ds M (Q Q' : D → Mem → Prop), (∀ d M', Q d M' → Q' d M') → sp__law_box K ds M Q → sp__law_box K ds M Q' := by
  rintro ds M Q Q' hQQ ⟨c, e, q⟩
  exact ⟨c, e, (by first | exact hQQ _ _ q | exact fun M' a b => hQQ _ _ (q M' a b) | exact fun d M' a => hQQ _ _ (q d M' a) | exact fun M' a => hQQ _ _ (q M' a) | exact fun M' a b c => hQQ _ _ (q M' a b c) | exact fun M' a b c d => hQQ _ _ (q M' a b c d) | exact fun M' a b c d e => hQQ _ _ (q M' a b c d e))⟩
theorem ok__law_box (T : Top K mg) : Fg P w K mg base 1 "_law_box" ["_law_cell_here"] [] (sp__law_box K) := by
  obtain ⟨fd, F⟩ := F__law_box T
  refine fg_mk (fn_ok F sc__law_box (by rintro ds M Q ⟨_, rfl, _⟩; rfl) (by decide) fun cdv A outer s H E hr ds M Q hs => ?_) (g__law_box T) F.kp (F.bindsN fun _ _ _ _ _ _ us hl => match us, hl with | [_], _ => rfl)
  obtain ⟨c, rfl, q⟩ := hs
  have hnd := sc__law_box.nd
  show Jss _ [some (.int c)] M (_ :: _) _
  refine j_retP (ev_n (n_lst (a_cons (e_mul (i := max 0 c) (j := PR.b2i (decide (10 ^ 18 ≤ c))) (.inr (by unfold PR.b2i; split <;> exact ⟨by decide, by decide⟩)) (e_max2 (b_max T) (a_cons e_int (a_cons (e_v 0 rfl) a_nil))) (e_intB (b_int T) (a_cons (e_ge (e_v 0 rfl) (ev_is (e_pow ⟨by decide, by decide, by decide⟩ e_int e_int) rfl)) a_nil))) (a_cons (e_mod (by decide) (e_v 0 rfl) e_int) (a_cons e_int a_nil))))) ?_
  rintro d M1 ⟨l, hl, rfl, rfl⟩
  exact q l hl
def sp__law_take (K : PySem.W.Frag) : SpD := fun ds M Q => ∃ b : Addr, ∃ s : Bs, ∃ n : Int, ∃ k : Nat, ds = [.obj b, .int n] ∧ M b = some (bsM s) ∧ okB k s ∧ k ≤ 1000000 ∧ 1 ≤ n ∧ n < 1000000000 ∧ Q (.int (tk s n).1) (M.put b (bsM (tk s n).2))
theorem mono__law_take {K : PySem.W.Frag} : ∀ ds M (Q Q' : D → Mem → Prop), (∀ d M', Q d M' → Q' d M') → sp__law_take K ds M Q → sp__law_take K ds M Q' := by
  rintro ds M Q Q' hQQ ⟨b, s, n, k, e, hB, hs, hk, h1, h2, q⟩
  exact ⟨b, s, n, k, e, hB, hs, hk, h1, h2, (by first | exact hQQ _ _ q | exact fun M' a b => hQQ _ _ (q M' a b) | exact fun d M' a => hQQ _ _ (q d M' a) | exact fun M' a => hQQ _ _ (q M' a) | exact fun M' a b c => hQQ _ _ (q M' a b c) | exact fun M' a b c d => hQQ _ _ (q M' a b c d) | exact fun M' a b c d e => hQQ _ _ (q M' a b c d e))⟩
theorem ok__law_take (T : Top K mg) : Fg P w K mg base 1 "_law_take" ["_law_box_here", "_law_many"] [] (sp__law_take K) := by
  obtain ⟨fd, F⟩ := F__law_take T
  refine fg_mk (fn_ok F sc__law_take (by rintro ds M Q ⟨_, _, _, _, rfl, _⟩; rfl) (by decide) fun cdv A outer s H E hr ds M Q hs => ?_) (g__law_take T) F.kp (F.bindsN fun _ _ _ _ _ _ us hl => match us, hl with | [_, _], _ => rfl)
  obtain ⟨b, s, n, k, rfl, hB, hs, hk, h1, h2, q⟩ := hs
  have hnd := sc__law_take.nd
  show Jss _ [some (.obj b), some (.int n), none, none] M (_ :: _) _
  have s1 := hs.d
  have s2 := hs.m
  have s3 := hs.m2
  have s4 := hs.c
  have s5 := hs.c2
  refine j_if (t_gt (e_ixL (d := .int s.d) (.mu hB) rfl (e_v 0 rfl) e_int) e_int) (fun h => ?_) (fun h => j_nil ?_)
  · have h0 := of_decide_eq_true h
    unfold tk at q
    rw [if_pos h0] at q
    refine j_set 2 (e_mod (by omega) (e_ixL (d := .int s.d) (.mu hB) rfl (e_v 0 rfl) e_int) (e_v 1 rfl)) ?_
    refine j_ixset (e_fdiv ⟨by omega, by omega⟩ (e_ixL (d := .int s.d) (.mu hB) rfl (e_v 0 rfl) e_int) (e_v 1 rfl)) (e_v 0 rfl) e_int hB (j := 0) rfl ?_
    exact j_ret (e_v 2 rfl) q
  · have h0 := of_decide_eq_false h
    unfold tk at q
    rw [if_neg h0] at q
    have hx : 0 ≤ tkX s ∧ tkX s < 2147483647 := ⟨Int.emod_nonneg _ (by decide), Int.emod_lt_of_pos _ (by decide)⟩
    refine j_ixset (e_add (e_ixL (d := .int s.c) (.mu hB) rfl (e_v 0 rfl) e_int) e_int) (e_v 0 rfl) e_int hB (j := 2) rfl ?_
    show Jss _ _ (M.put b (bsM ⟨s.d, s.m, tkC s⟩)) _ _
    have hB1 : (M.put b (bsM ⟨s.d, s.m, tkC s⟩)) b = some (bsM ⟨s.d, s.m, tkC s⟩) := put_same
    refine j_set 3 (d := .int (tkX s)) (e_mod (by decide) (e_pow (i := s.m + 7919 * tkC s + 17) ⟨by decide, by decide, by unfold tkC; omega⟩ (e_add (e_add (e_ixL (d := .int s.m) (.mu hB1) rfl (e_v 0 rfl) e_int) (e_mul (.inl ⟨by decide, by decide⟩) e_int (e_ixL (d := .int (tkC s)) (.mu hB1) rfl (e_v 0 rfl) e_int))) e_int) e_int) e_int) ?_
    refine j_set 3 (d := .int (tkY s)) (e_mod (by decide) (e_pow (i := tkX s + 104729 * tkC s) ⟨by decide, by decide, by unfold tkC; omega⟩ (e_add (e_v 3 rfl) (e_mul (.inl ⟨by decide, by decide⟩) e_int (e_ixL (d := .int (tkC s)) (.mu hB1) rfl (e_v 0 rfl) e_int))) e_int) e_int) ?_
    exact j_ret (e_mod (by omega) (e_fdiv ⟨by decide, by decide⟩ (e_v 3 rfl) e_int) (e_v 1 rfl)) q
end H

set_option Elab.async false
set_option linter.all false
set_option maxRecDepth 100000
set_option maxHeartbeats 4000000
namespace H
open PySem PySem.Spec PyProof.Rows L2 PR
variable {P : Program} {w : World} {K : PySem.W.Frag} {mg : Str → Option Value} {base : Heap}

/-! ### names -/
abbrev SS (l : List Nat) : Str := ⟨l.toArray⟩
def alp : Str := "abcdefghijklmnopqrstuvwxyz"
def ltr (i : Int) : Nat := 97 + i.toNat
theorem alp_at {i : Int} (h1 : 0 ≤ i) (h2 : i < 26) : L2.atI alp.cps.toList i = some (ltr i) := by
  obtain ⟨n, rfl⟩ := Int.eq_ofNat_of_zero_le h1
  have hn : n < 26 := by omega
  have key : ∀ k : Fin 26, L2.atI alp.cps.toList ((k : Nat) : Int) = some (ltr ((k : Nat) : Int)) := by decide +kernel
  exact key ⟨n, hn⟩
def someL : List Str := ["marks", "tos", "fromm", "al", "an", "steps", "deeds", "ro", "numbe", "wis", "tes", "divide", "x"]
def own12 : List Str := ["mark", "number", "wish", "test", "round", "deed", "from", "to", "step", "all", "and", "divides"]
def stemF (s : Bs) : Nat → List Nat × Bs
  | 0 => ([], s)
  | n + 1 => ((stemF s n).1 ++ [ltr (tk (stemF s n).2 26).1], (tk (stemF s n).2 26).2)
def fixN (l : List Nat) : Str := if SS l ∈ own12 then SS ((l ++ [113]).drop (l.length + 1 - 6)) else SS l
def nameA (f : Int) (many : Nat) : List Str := ((someL ++ someL).drop (f % 13).toNat).take many
def nameB (f : Int) (many : Nat) : List Str := (List.range many).map fun k => SS (List.replicate (k + 1) (ltr f))
def sgnF (f sd : Int) (k : Nat) : Nat := ltr ((f + sd * (k : Int)) % 26)
def nameC (st : List Nat) (at_ : Int) (f sd : Int) (many : Nat) : List Str := (List.range many).map fun k => fixN (st.take at_.toNat ++ [sgnF f sd k] ++ st.drop at_.toNat)
def nmW (s : Bs) : Int × Bs := tk s 4
def nmF (s : Bs) : Int × Bs := tk (nmW s).2 26
def nmL (s : Bs) : Int × Bs := tk (nmF s).2 6
def nmS (s : Bs) : List Nat × Bs := stemF (nmL s).2 (nmL s).1.toNat
def nmA (s : Bs) : Int × Bs := tk (nmS s).2 ((nmS s).1.length + 1)
def nmD2 (s : Bs) : Int × Bs := tk (nmA s).2 6
def namesF (s : Bs) (many : Nat) : List Str × Bs :=
  if (nmW s).1 = 0 then (nameA (nmF s).1 many, (nmF s).2)
  else if (nmW s).1 = 1 then (nameB (nmF s).1 many, (nmF s).2)
  else (nameC (nmS s).1 (nmA s).1 (nmF s).1 (pk [1, 3, 5, 7, 9, 11] (nmD2 s).1) many, (nmD2 s).2)
theorem stem_ok {k : Nat} {s : Bs} (h : okB k s) : ∀ n, okB (k + n) (stemF s n).2
  | 0 => h
  | n + 1 => tk_ok (stem_ok h n) (by decide)
theorem stem_len (s : Bs) : ∀ n, (stemF s n).1.length = n
  | 0 => rfl
  | n + 1 => by
    show ((stemF s n).1 ++ _).length = n + 1
    rw [List.length_append, stem_len s n]
    rfl
theorem stem_map (s : Bs) : ∀ n, (List.range n).map (fun i => SS [ltr (tk (stemF s i).2 26).1]) = (stemF s n).1.map fun c => SS [c]
  | 0 => rfl
  | n + 1 => by
    rw [List.range_succ, List.map_append, stem_map s n]
    show _ = ((stemF s n).1 ++ [ltr (tk (stemF s n).2 26).1]).map _
    rw [List.map_append]
    rfl
theorem joinL_nil : ∀ ys : List (List Nat), TL.joinL [] ys = ys.flatten
  | [] => rfl
  | [a] => by simp [TL.joinL]
  | a :: b :: r => by
    have := joinL_nil (b :: r)
    simp [TL.joinL] at this ⊢
    exact this
theorem sum1 : ∀ n : Nat, ((List.range n).map fun _ => (1 : Nat)).sum = n
  | 0 => rfl
  | n + 1 => by rw [List.range_succ, List.map_append, List.sum_append, sum1 n]; rfl
theorem flat1 : ∀ l : List Nat, (l.map fun c => [c]).flatten = l
  | [] => rfl
  | a :: r => by simp [flat1 r]
theorem rep1 (c : Nat) : ∀ n, (List.replicate n [c]).flatten = List.replicate n c
  | 0 => rfl
  | n + 1 => by rw [List.replicate_succ, List.flatten_cons, rep1 c n]; rfl
theorem join_SS (l : List Nat) : Txt.join "" (l.map fun c => SS [c]) = SS l := by
  have e := SX.join_S [] (l.map fun c => [c])
  rw [joinL_nil, List.map_map] at e
  rw [show (List.map (SX.S ∘ fun c => [c]) l) = l.map (fun c => SS [c]) from rfl, flat1 l] at e
  have e3 : ("" : Str) = SX.S [] := by decide +kernel
  rw [e3]
  exact e
theorem cutS_take {l : List Nat} {a : Nat} (h : a ≤ l.length) : cutS (SS l) none (some (a : Int)) = SS (l.take a) := by
  unfold cutS
  have hl : (SS l).length = l.length := by show l.toArray.size = _; simp
  rw [HT.sIx_nat, HT.sIx_none, hl, Nat.min_eq_left h]
  simp
theorem cutS_drop {l : List Nat} {a : Nat} (h : a ≤ l.length) : cutS (SS l) (some (a : Int)) none = SS (l.drop a) := by
  unfold cutS
  have hl : (SS l).length = l.length := by show l.toArray.size = _; simp
  rw [HT.sIx_nat, HT.sIx_none, hl, Nat.min_eq_left h]
  simp
  rw [List.take_of_length_le (by rw [List.length_drop]; omega)]
theorem cutS_last6 {l : List Nat} : cutS (SS l ++ "q") (some (-6)) none = SS ((l ++ [113]).drop (l.length + 1 - 6)) := by
  have e : SS l ++ "q" = SS (l ++ [113]) := by
    show (⟨l.toArray ++ _⟩ : Str) = ⟨(l ++ [113]).toArray⟩
    congr 1
    have : ("q" : Str).cps = #[113] := by decide +kernel
    rw [this]
    simp
  rw [e]
  unfold cutS
  have hl : (SS (l ++ [113])).length = l.length + 1 := by show (l ++ [113]).toArray.size = _; simp
  have e2 : HT.sIx (l.length + 1) 0 (some (-6)) = l.length + 1 - 6 := by
    show (if (-6 : Int) < 0 then ((-6 : Int) + ((l.length + 1 : Nat) : Int)).toNat else min (-6 : Int).toNat (l.length + 1)) = _
    rw [if_pos (by decide)]
    omega
  rw [HT.sIx_none, hl, e2]
  show SS (List.take (l.length + 1 - (l.length + 1 - 6)) ((l ++ [113]).drop (l.length + 1 - 6))) = _
  rw [List.take_of_length_le (by rw [List.length_drop, List.length_append]; exact Nat.le_refl _)]
theorem app_SS (a b : List Nat) : SS a ++ SS b = SS (a ++ b) := by
  show (⟨a.toArray ++ b.toArray⟩ : Str) = ⟨(a ++ b).toArray⟩
  simp
theorem len_SS (a : List Nat) : (SS a).length = a.length := by
  show a.toArray.size = _
  simp

def sp__law_names (K : PySem.W.Frag) : SpD := fun ds M Q => ∃ b : Addr, ∃ s : Bs, ∃ many k : Nat, ds = [.obj b, .int (many : Int)] ∧ M b = some (bsM s) ∧ okB k s ∧ k ≤ 900000 ∧ 1 ≤ many ∧ many ≤ 5 ∧ Q (.lst ((namesF s many).1.map .str)) (M.put b (bsM (namesF s many).2))
theorem mono__law_names {K : PySem.W.Frag} : ∀ ds M (Q Q' : D → Mem → Prop), (∀ d M', Q d M' → Q' d M') → sp__law_names K ds M Q → sp__law_names K ds M Q' := by
  rintro ds M Q Q' hQQ ⟨b, s, many, k, e, hB, hs, hk, h1, h2, q⟩
  exact ⟨b, s, many, k, e, hB, hs, hk, h1, h2, (by first | exact hQQ _ _ q | exact fun M' a b => hQQ _ _ (q M' a b) | exact fun d M' a => hQQ _ _ (q d M' a) | exact fun M' a => hQQ _ _ (q M' a) | exact fun M' a b c => hQQ _ _ (q M' a b c) | exact fun M' a b c d => hQQ _ _ (q M' a b c d) | exact fun M' a b c d e => hQQ _ _ (q M' a b c d e))⟩
theorem ok__law_names (T : Top K mg) : Fg P w K mg base 2 "_law_names" ["_law_box_here", "_law_many"] [] (sp__law_names K) := by
  obtain ⟨fd, F⟩ := F__law_names T
  refine fg_mk (fn_ok F sc__law_names (by rintro ds M Q ⟨_, _, _, _, rfl, _⟩; rfl) (by decide) fun cdv A outer s H E hr ds M Q hs => ?_) (g__law_names T) F.kp (F.bindsN fun _ _ _ _ _ _ us hl => match us, hl with | [_, _], _ => rfl)
  obtain ⟨b, s, many, k, rfl, hB, hs, hk, h1, h2, q⟩ := hs
  have hnd := sc__law_names.nd
  show Jss _ [some (.obj b), some (.int (many : Int)), none, none, none, none, none, none, none, none, none, none, none, none, none] M (_ :: _) _
  have ow : okB (k + 1) (nmW s).2 := tk_ok hs (by decide)
  have of : okB (k + 2) (nmF s).2 := tk_ok ow (by decide)
  have ol : okB (k + 3) (nmL s).2 := tk_ok of (by decide)
  have f0 : 0 ≤ (nmF s).1 := tk_ge (by decide)
  have f1 : (nmF s).1 < 26 := tk_lt (by decide)
  have l0 : 0 ≤ (nmL s).1 := tk_ge (by decide)
  have l1 : (nmL s).1 < 6 := tk_lt (by decide)
  have os : okB (k + 8) (nmS s).2 := (stem_ok ol _).mono (by omega)
  have sl : (nmS s).1.length = (nmL s).1.toNat := stem_len _ _
  have oa : okB (k + 9) (nmA s).2 := tk_ok os (by omega)
  have a0 : 0 ≤ (nmA s).1 := tk_ge (by omega)
  have a1 : (nmA s).1 < (nmS s).1.length + 1 := tk_lt (by omega)
  have d0 : 0 ≤ (nmD2 s).1 := tk_ge (by decide)
  have d1 : (nmD2 s).1 < 6 := tk_lt (by decide)
  refine j_set 2 (d := .str alp) e_str ?_
  refine j_set 3 (e_call (ok__law_take T) hr (a_cons (e_v 0 rfl) (a_cons e_int a_nil)) fun Q q => ⟨b, s, 4, k, rfl, hB, hs, by omega, by decide, by decide, q⟩) ?_
  refine j_set 4 (d := .int (nmF s).1) (M1 := M.put b (bsM (nmF s).2)) (e_call (ok__law_take T) hr (a_cons (e_v 0 rfl) (a_cons e_int a_nil)) fun Q q => ⟨b, (nmW s).2, 26, k + 1, rfl, put_same, ow, by omega, by decide, by decide, by rw [put_put]; exact q⟩) ?_
  refine j_if (t_eqI (e_v 3 rfl) e_int) (fun h => ?_) (fun h => j_nil ?_)
  · have hw : (nmW s).1 = 0 := of_decide_eq_true h
    unfold namesF at q
    rw [if_pos hw] at q
    refine j_set 5 (d := .lst (someL.map .str)) (e_fz (n_lst (a_cons e_str (a_cons e_str (a_cons e_str (a_cons e_str (a_cons e_str (a_cons e_str (a_cons e_str (a_cons e_str (a_cons e_str (a_cons e_str (a_cons e_str (a_cons e_str (a_cons e_str a_nil)))))))))))))) ) ?_
    have hm0 : 0 ≤ (nmF s).1 % 13 := Int.emod_nonneg _ (by decide)
    have hm1 : (nmF s).1 % 13 < 13 := Int.emod_lt_of_pos _ (by decide)
    obtain ⟨j, hj⟩ := Int.eq_ofNat_of_zero_le hm0
    refine j_ret (ev_is (e_fz (n_slL .fz (e_fz (n_slL .fz (e_fz (n_rep .fz ⟨by decide, by decide⟩ (by decide) (e_v 5 rfl) e_int)) (o_some (e_mod (by decide) (e_v 4 rfl) e_int)) o_none)) o_none (o_some (e_v 1 rfl)))) ?_) q
    congr 1
    have e0 : (List.replicate (2 : Int).toNat (someL.map D.str)).flatten = (someL ++ someL).map .str := by rfl
    rw [e0, hj]
    unfold nameA
    rw [hj]
    have e1 : PR.cutD ((someL ++ someL).map D.str) (some (j : Int)) none = ((someL ++ someL).drop j).map .str := by
      unfold PR.cutD
      rw [HT.sIx_nat, HT.sIx_none, Nat.min_eq_left (by show j ≤ 26; omega), List.map_drop]
      rw [List.take_of_length_le (by rw [List.length_drop]; exact Nat.le_refl _)]
    rw [e1]
    unfold PR.cutD
    have hl : (((someL ++ someL).drop j).map D.str).length = 26 - j := by rw [List.length_map, List.length_drop]; rfl
    rw [HT.sIx_nat, HT.sIx_none, hl, Nat.min_eq_left (by omega), List.drop_zero, Nat.sub_zero, List.map_take]
    rfl
  have hw : (nmW s).1 ≠ 0 := of_decide_eq_false h
  refine j_if (t_eqI (e_v 3 rfl) e_int) (fun h => ?_) (fun h => j_nil ?_)
  · have hw1 : (nmW s).1 = 1 := of_decide_eq_true h
    unfold namesF at q
    rw [if_neg hw, if_pos hw1] at q
    refine j_ret (ev_is (e_fz (lc_n (lcI (own := [("_law_k", 12)]) (fun k => .str (SS (List.replicate (k + 1) (ltr (nmF s).1)))) (k_rg1 (j := (many : Int)) (a_cons (e_v 1 rfl) a_nil) ⟨by omega, by omega⟩ (b_range T)) (fun s H C cl fp => tg_n 12) (by decide) (fun i x hx => ?_) (by rw [rg_len]; omega)))) (by rw [rg_len]; unfold nameB; rw [List.map_map]; rfl)) q
    obtain ⟨hi, rfl⟩ := rg_at hx
    refine ⟨_, rfl, fun N hN s0 H C cl fp => ev_is (e_mulS ⟨by omega, by omega⟩ (by show (1 : Nat) ≤ 1000; decide) (e_ixS (t := alp) (by decide +kernel) (alp_at f0 f1) (e_v 2 rfl) (e_v 4 rfl)) (e_add (e_v 12 rfl) e_int)) ?_⟩
    have e : (0 + (i : Int) + 1).toNat = i + 1 := by omega
    show D.str ⟨((List.replicate (0 + (i : Int) + 1).toNat [ltr (nmF s).1]).flatten).toArray⟩ = D.str ⟨(List.replicate (i + 1) (ltr (nmF s).1)).toArray⟩
    rw [e, rep1]
  have hw1 : (nmW s).1 ≠ 1 := of_decide_eq_false h
  unfold namesF at q
  rw [if_neg hw, if_neg hw1] at q
  have hrl : (rgD 0 (nmL s).1.toNat).length = (nmL s).1.toNat := rg_len _ _
  refine j_set 6 (d := .str (Txt.join "" ((List.range (rgD 0 (nmL s).1.toNat).length).map fun i => SS [ltr (tk (stemF (nmL s).2 i).2 26).1]))) (e_join (ys := (List.range (rgD 0 (nmL s).1.toNat).length).map fun i => SS [ltr (tk (stemF (nmL s).2 i).2 26).1]) .fz ?_ e_str (ev_is (e_fz (n_lcO (bx := b) (own := [("_law_k", 12)]) (fun i => bsM (stemF (nmL s).2 i).2) (fun i => .str (SS [ltr (tk (stemF (nmL s).2 i).2 26).1])) (k_rg1 (j := (nmL s).1) (a_cons (e_call (M2 := M.put b (bsM (nmL s).2)) (ok__law_take T) hr (a_cons (e_v 0 rfl) (a_cons e_int a_nil)) fun Q q => ⟨b, (nmF s).2, 6, k + 2, rfl, put_same, of, by omega, by decide, by decide, by rw [put_put]; exact q⟩) a_nil) ⟨by omega, by omega⟩ (b_range T)) (fun s H C cl fp => tg_n 12) (by decide) put_same (fun i x hx => ?_) (by rw [hrl]; omega))) (by rw [List.map_map]; rfl))) ?_
  · rw [hrl, List.map_map, List.length_map, List.length_range]
    have e0 : (("" : Str)).length = 0 := by decide +kernel
    rw [e0, Nat.mul_zero]
    have e1 : ((List.range (nmL s).1.toNat).map ((fun x : Str => x.length) ∘ fun i => SS [ltr (tk (stemF (nmL s).2 i).2 26).1])).sum = (nmL s).1.toNat := by
      have e2 : ((fun x : Str => x.length) ∘ fun i => SS [ltr (tk (stemF (nmL s).2 i).2 26).1]) = fun _ => 1 := by
        funext i
        exact len_SS _
      rw [e2]
      exact sum1 _
    rw [e1]
    omega
  · obtain ⟨hi, rfl⟩ := rg_at hx
    have oi : okB (k + 3 + i) (stemF (nmL s).2 i).2 := stem_ok ol i
    have t0 : 0 ≤ (tk (stemF (nmL s).2 i).2 26).1 := tk_ge (by decide)
    have t1 : (tk (stemF (nmL s).2 i).2 26).1 < 26 := tk_lt (by decide)
    exact ⟨_, rfl, fun N hN s0 H C cl fp => e_ixS (t := alp) (by decide +kernel) (alp_at t0 t1) (e_v 2 rfl) (e_call (ok__law_take T) hr (a_cons (e_v 0 rfl) (a_cons e_int a_nil)) fun Q q => ⟨b, (stemF (nmL s).2 i).2, 26, k + 3 + i, rfl, hN _ _ put_same, oi, by omega, by decide, by decide, q⟩)⟩
  rw [hrl, put_put]
  have hjoin : Txt.join "" ((List.range (nmL s).1.toNat).map fun i => SS [ltr (tk (stemF (nmL s).2 i).2 26).1]) = SS (nmS s).1 := by
    rw [← join_SS (nmS s).1]
    congr 1
    exact stem_map (nmL s).2 (nmL s).1.toNat
  rw [hjoin]
  show Jss _ _ (M.put b (bsM (nmS s).2)) _ _
  refine j_set 7 (d := .int (nmA s).1) (M1 := M.put b (bsM (nmA s).2)) (e_call (ok__law_take T) hr (a_cons (e_v 0 rfl) (a_cons (e_add (i := ((nmS s).1.length : Int)) (ev_is (e_lenS (t := SS (nmS s).1) (by rw [len_SS]; exact Nat.le_trans (show _ ≤ 6 by omega) (by decide)) (b_len T) (a_cons (e_v 6 rfl) a_nil)) (by rw [len_SS])) e_int) a_nil)) fun Q q => ⟨b, (nmS s).2, _, k + 8, rfl, put_same, os, by omega, by omega, by omega, by rw [put_put]; exact q⟩) ?_
  refine j_set 8 (d := .int (pk [1, 3, 5, 7, 9, 11] (nmD2 s).1)) (M1 := M.put b (bsM (nmD2 s).2)) (e_ixL (ds := [1, 3, 5, 7, 9, 11].map .int) .fz (atI_pk d0 d1) (e_fz (n_lst (a_cons e_int (a_cons e_int (a_cons e_int (a_cons e_int (a_cons e_int (a_cons e_int a_nil)))))))) (e_call (ok__law_take T) hr (a_cons (e_v 0 rfl) (a_cons e_int a_nil)) fun Q q => ⟨b, (nmA s).2, 6, k + 9, rfl, put_same, oa, by omega, by decide, by decide, by rw [put_put]; exact q⟩)) ?_
  generalize hsd : pk [1, 3, 5, 7, 9, 11] (nmD2 s).1 = sd at q ⊢
  have hsdb : -(2 ^ 64) < sd ∧ sd < 2 ^ 64 := by
    rw [← hsd]
    have key : ∀ r : Fin 6, -(2 ^ 64) < pk [1, 3, 5, 7, 9, 11] ((r : Nat) : Int) ∧ pk [1, 3, 5, 7, 9, 11] ((r : Nat) : Int) < 2 ^ 64 := by decide +kernel
    obtain ⟨r, hr'⟩ := Int.eq_ofNat_of_zero_le d0
    rw [hr']
    exact key ⟨r, by omega⟩
  refine j_lcF 9 (lc_is (zs := ((List.range many).map fun i => SS [sgnF (nmF s).1 sd i]).map .str) (lcI (own := [("_law_k", 12)]) (fun i => .str (SS [sgnF (nmF s).1 sd i])) (k_rg1 (j := (many : Int)) (a_cons (e_v 1 rfl) a_nil) ⟨by omega, by omega⟩ (b_range T)) (fun s H C cl fp => tg_n 12) (by decide) (fun i x hx => ?_) (by rw [rg_len]; omega)) (by rw [rg_len, List.map_map]; rfl)) ?_
  · obtain ⟨hi, rfl⟩ := rg_at hx
    refine ⟨_, rfl, fun N hN s0 H C cl fp => e_ixS (t := alp) (by decide +kernel) (alp_at (i := ((nmF s).1 + sd * (i : Int)) % 26) (Int.emod_nonneg _ (by decide)) (Int.emod_lt_of_pos _ (by decide))) (e_v 2 rfl) (ev_is (e_mod (by decide) (e_add (e_v 4 rfl) (e_mul (.inl hsdb) (e_v 8 rfl) (e_v 12 rfl))) e_int) (by rw [Int.zero_add]))⟩
  obtain ⟨at_, hat⟩ := Int.eq_ofNat_of_zero_le a0
  have hatl : at_ ≤ (nmS s).1.length := by omega
  have htz : (SS (nmS s).1).length ≤ sizeLine := by rw [len_SS]; exact Nat.le_trans (show _ ≤ 6 by omega) (by decide)
  refine j_lcF 10 (lc_is (zs := ((List.range many).map fun i => SS ((nmS s).1.take at_ ++ [sgnF (nmF s).1 sd i] ++ (nmS s).1.drop at_)).map .str) (lcI (own := [("_law_sign", 13)]) (fun i => .str (SS ((nmS s).1.take at_ ++ [sgnF (nmF s).1 sd i] ++ (nmS s).1.drop at_))) (k_lst (e_v 9 rfl)) (fun s H C cl fp => tg_n 13) (by decide) (fun i x hx => ?_) (by simp; omega)) (by rw [List.length_map, List.length_map, List.length_range, List.map_map]; rfl)) ?_
  · rw [List.getElem?_map, List.getElem?_map] at hx
    obtain ⟨y, hy, rfl⟩ := Option.map_eq_some_iff.mp hx
    obtain ⟨i', hi', rfl⟩ := Option.map_eq_some_iff.mp hy
    obtain ⟨hlt, e⟩ := List.getElem?_eq_some_iff.mp hi'
    rw [List.getElem_range] at e
    subst e
    have e7 : (.int (nmA s).1 : D) = .int (at_ : Int) := by rw [hat]
    refine ⟨_, rfl, fun N hN s0 H C cl fp => ev_is (e_addS (s := SS ((nmS s).1.take at_ ++ [sgnF (nmF s).1 sd i])) (t := SS ((nmS s).1.drop at_)) ?_ (ev_is (e_addS (s := SS ((nmS s).1.take at_)) (t := SS [sgnF (nmF s).1 sd i]) ?_ (ev_is (e_slS htz (e_v 6 rfl) o_none (o_some (ev_is (e_v 7 rfl) e7))) (by rw [cutS_take hatl])) (e_v 13 rfl)) (by rw [app_SS])) (ev_is (e_slS htz (e_v 6 rfl) (o_some (ev_is (e_v 7 rfl) e7)) o_none) (by rw [cutS_drop hatl]))) (by rw [app_SS])⟩
    · rw [len_SS, len_SS, List.length_append, List.length_take, List.length_drop]
      exact Nat.le_trans (show _ ≤ 100 by simp; omega) (by decide)
    · rw [len_SS, len_SS, List.length_take]
      exact Nat.le_trans (show _ ≤ 100 by simp; omega) (by decide)
  refine j_set 11 (d := .lst (own12.map .str)) (e_fz (n_lst (a_cons e_str (a_cons e_str (a_cons e_str (a_cons e_str (a_cons e_str (a_cons e_str (a_cons e_str (a_cons e_str (a_cons e_str (a_cons e_str (a_cons e_str (a_cons e_str a_nil)))))))))))))) ?_
  refine j_ret (ev_is (e_fz (lc_n (lcI (own := [("_law_name", 14)]) (fun i => .str (fixN ((nmS s).1.take at_ ++ [sgnF (nmF s).1 sd i] ++ (nmS s).1.drop at_))) (k_lst (e_v 10 rfl)) (fun s H C cl fp => tg_n 14) (by decide) (fun i x hx => ?_) (by simp; omega)))) (by rw [List.length_map, List.length_map, List.length_range]; unfold nameC; rw [List.map_map, hat]; rfl)) q
  rw [List.getElem?_map, List.getElem?_map] at hx
  obtain ⟨y, hy, rfl⟩ := Option.map_eq_some_iff.mp hx
  obtain ⟨i', hi', rfl⟩ := Option.map_eq_some_iff.mp hy
  obtain ⟨hlt, e⟩ := List.getElem?_eq_some_iff.mp hi'
  rw [List.getElem_range] at e
  subst e
  generalize hnm : (nmS s).1.take at_ ++ [sgnF (nmF s).1 sd i] ++ (nmS s).1.drop at_ = nm
  have hnl : nm.length ≤ 7 := by
    rw [← hnm, List.length_append, List.length_append, List.length_take, List.length_drop]
    simp
    omega
  have hz1 : (SS nm).length + ("q" : Str).length ≤ sizeLine := by
    rw [len_SS]
    exact Nat.le_trans (show _ ≤ 100 from by rw [show ("q" : Str).length = 1 from by decide +kernel]; omega) (by decide)
  have hz2 : (SS nm ++ "q").length ≤ sizeLine := by
    have e : (SS nm ++ "q").length = (SS nm).length + ("q" : Str).length := by
      show (nm.toArray ++ ("q" : Str).cps).size = nm.toArray.size + ("q" : Str).cps.size
      simp
    rw [e]
    exact hz1
  refine ⟨_, rfl, fun N hN s0 H C cl fp => e_ixL (ds := [.str (SS nm), .str (cutS (SS nm ++ "q") (some (-6)) none)]) (i := PR.b2i (decide (SS nm ∈ own12))) .fz ?_ (e_fz (n_lst (a_cons (e_v 14 rfl) (a_cons (e_slS hz2 (e_addS hz1 (e_v 14 rfl) e_str) (o_some (e_neg e_int)) o_none) a_nil)))) (e_intB (b_int T) (a_cons (e_inSs .fz (e_v 14 rfl) (e_v 11 rfl)) a_nil))⟩
  rw [cutS_last6]
  unfold fixN
  by_cases hin : SS nm ∈ own12
  · rw [if_pos hin, decide_eq_true hin]
    rfl
  · rw [if_neg hin, decide_eq_false hin]
    rfl
end H

set_option Elab.async false
set_option linter.all false
set_option maxRecDepth 100000
set_option maxHeartbeats 4000000
namespace H
open PySem PySem.Spec PyProof.Rows L2 PR
variable {P : Program} {w : World} {K : PySem.W.Frag} {mg : Str → Option Value} {base : Heap}

/-! ### small frames -/
theorem cut_take {ds : List PR.D} {j : Nat} (h : j ≤ ds.length) : PR.cutD ds none (some (j : Int)) = ds.take j := by
  unfold PR.cutD
  rw [HT.sIx_none, HT.sIx_nat, Nat.min_eq_left h, List.drop_zero]
  rfl
theorem cut_drop {ds : List PR.D} {j : Nat} (h : j ≤ ds.length) : PR.cutD ds (some (j : Int)) none = ds.drop j := by
  unfold PR.cutD
  rw [HT.sIx_none, HT.sIx_nat, Nat.min_eq_left h, List.take_of_length_le (by rw [List.length_drop]; exact Nat.le_refl _)]
def tolD (mk nu : List Bx) : PR.D := .tup [.lst (mk.map bxD), .lst (nu.map bxD)]
def sbW (wd : Int) (s : Bs) : Int × Bs := tk s (wd + 1)
def sbA (wd : Int) (s : Bs) : Int × Bs := tk (sbW wd s).2 9
def sbC (wd : Int) (s : Bs) : Int × Bs := tk (sbA wd s).2 3
def sbS (wd : Int) (s : Bs) : Int := pk [0, 1, (sbA wd s).1 - 4] (sbC wd s).1
def sbF (wd : Int) (ns : List Str) (s : Bs) : Nat → List Bx × Bs
  | 0 => ([], s)
  | i + 1 => ((sbF wd ns s i).1 ++ [(ns.getD i "", sbS wd (sbF wd ns s i).2, sbS wd (sbF wd ns s i).2 + (sbW wd (sbF wd ns s i).2).1)], (sbC wd (sbF wd ns s i).2).2)
theorem sb_len (wd : Int) (ns : List Str) (s : Bs) : ∀ j, (sbF wd ns s j).1.length = j
  | 0 => rfl
  | j + 1 => by
    show ((sbF wd ns s j).1 ++ [_]).length = j + 1
    rw [List.length_append, sb_len wd ns s j]
    rfl
theorem sb_ok {k : Nat} {s : Bs} (h : okB k s) {wd : Int} (hw : 0 ≤ wd) (ns : List Str) : ∀ i, okB (k + 3 * i) (sbF wd ns s i).2
  | 0 => h
  | i + 1 => by
    have a := sb_ok h hw ns i
    have a1 : okB (k + 3 * i + 1) (sbW wd (sbF wd ns s i).2).2 := tk_ok a (by omega)
    have a2 : okB (k + 3 * i + 2) (sbA wd (sbF wd ns s i).2).2 := tk_ok a1 (by decide)
    exact tk_ok a2 (by decide)
theorem names_len (s : Bs) {many : Nat} (h : many ≤ 5) : (namesF s many).1.length = many := by
  unfold namesF
  split
  · show (nameA _ _).length = many
    unfold nameA
    have h0 : 0 ≤ (nmF s).1 % 13 := Int.emod_nonneg _ (by decide)
    have h1 : (nmF s).1 % 13 < 13 := Int.emod_lt_of_pos _ (by decide)
    have hl : (someL ++ someL).length = 26 := rfl
    rw [List.length_take, List.length_drop, hl]
    omega
  · split
    · show (nameB _ _).length = many
      unfold nameB
      rw [List.length_map, List.length_range]
    · show (nameC _ _ _ _ _).length = many
      unfold nameC
      rw [List.length_map, List.length_range]
theorem names_ok {k : Nat} {s : Bs} (h : okB k s) (many : Nat) : okB (k + 10) (namesF s many).2 := by
  have ow : okB (k + 1) (nmW s).2 := tk_ok h (by decide)
  have of : okB (k + 2) (nmF s).2 := tk_ok ow (by decide)
  have ol : okB (k + 3) (nmL s).2 := tk_ok of (by decide)
  have l0 : 0 ≤ (nmL s).1 := tk_ge (by decide)
  have l1 : (nmL s).1 < 6 := tk_lt (by decide)
  have os : okB (k + 8) (nmS s).2 := (stem_ok ol _).mono (by omega)
  have oa : okB (k + 9) (nmA s).2 := tk_ok os (by omega)
  have od : okB (k + 10) (nmD2 s).2 := tk_ok oa (by decide)
  unfold namesF
  split
  · exact of.mono (by omega)
  · split
    · exact of.mono (by omega)
    · exact od
theorem pk_in {xs : List Int} {r : Int} (h1 : 0 ≤ r) (h2 : r < xs.length) : pk xs r ∈ xs := by
  obtain ⟨n, rfl⟩ := Int.eq_ofNat_of_zero_le h1
  have hn : n < xs.length := by omega
  unfold pk
  show xs.getD n 0 ∈ xs
  rw [List.getD_eq_getElem?_getD, List.getElem?_eq_getElem hn]
  exact List.getElem_mem hn
def sfM (s : Bs) : Int × Bs := tk s 3
def sfN (s : Bs) : Int × Bs := tk (sfM s).2 3
def sfm (s : Bs) : Nat := 1 + (sfM s).1.toNat
def sfn (s : Bs) : Nat := (sfN s).1.toNat
def sfNm (s : Bs) : List Str × Bs := namesF (sfN s).2 (sfm s + sfn s)
def sfW (s : Bs) : Int × Bs := tk (sfNm s).2 4
def sfWi (s : Bs) : Int := pk [0, 0, 1, 2] (sfW s).1 * PR.b2i (decide ((sfm s : Int) < 3))
def sfWd (s : Bs) : Int := pk [3, 5, 11] (sfWi s)
def sfMk (s : Bs) : List Bx × Bs := sbF (sfWd s) ((sfNm s).1.take (sfm s)) (sfW s).2 (sfm s)
def sfNu (s : Bs) : List Bx × Bs := sbF 5 ((sfNm s).1.drop (sfm s)) (sfMk s).2 (sfn s)
theorem sf_m (s : Bs) : 1 ≤ sfm s ∧ sfm s ≤ 3 ∧ (sfm s : Int) = 1 + (sfM s).1 := by
  have a : 0 ≤ (sfM s).1 := tk_ge (by decide)
  have b : (sfM s).1 < 3 := tk_lt (by decide)
  unfold sfm
  omega
theorem sf_n (s : Bs) : sfn s ≤ 2 ∧ (sfn s : Int) = (sfN s).1 := by
  have a : 0 ≤ (sfN s).1 := tk_ge (by decide)
  have b : (sfN s).1 < 3 := tk_lt (by decide)
  unfold sfn
  omega
theorem sf_wi (s : Bs) : 0 ≤ sfWi s ∧ sfWi s < 3 := by
  have h : pk [0, 0, 1, 2] (sfW s).1 ∈ [0, 0, 1, 2] := pk_in (tk_ge (by decide)) (tk_lt (by decide))
  unfold sfWi PR.b2i
  simp only [List.mem_cons, List.not_mem_nil, or_false] at h
  split <;> omega
theorem sf_wd (s : Bs) : 3 ≤ sfWd s ∧ sfWd s ≤ 11 := by
  have h : sfWd s ∈ [3, 5, 11] := pk_in (sf_wi s).1 (sf_wi s).2
  simp only [List.mem_cons, List.not_mem_nil, or_false] at h
  omega
theorem sf_ok {k : Nat} {s : Bs} (h : okB k s) : okB (k + 30) (sfNu s).2 := by
  have o1 : okB (k + 1) (sfM s).2 := tk_ok h (by decide)
  have o2 : okB (k + 2) (sfN s).2 := tk_ok o1 (by decide)
  have o3 : okB (k + 12) (sfNm s).2 := names_ok o2 _
  have o4 : okB (k + 13) (sfW s).2 := tk_ok o3 (by decide)
  have hm := sf_m s
  have hn := sf_n s
  have hw := sf_wd s
  have o5 : okB (k + 22) (sfMk s).2 := (sb_ok o4 (by omega) _ _).mono (by omega)
  exact (sb_ok o5 (by decide) _ _).mono (by omega)
theorem sfMk_len (s : Bs) : (sfMk s).1.length = sfm s := sb_len _ _ _ _
theorem sfNu_len (s : Bs) : (sfNu s).1.length = sfn s := sb_len _ _ _ _

def sp__law_small_boxed (K : PySem.W.Frag) : SpD := fun ds M Q => ∃ b : Addr, ∃ s : Bs, ∃ ns : List Str, ∃ wd : Int, ∃ k : Nat, ds = [.obj b, .lst (ns.map .str), .int wd] ∧ M b = some (bsM s) ∧ okB k s ∧ k ≤ 900000 ∧ ns.length ≤ 5 ∧ 0 ≤ wd ∧ wd ≤ 11 ∧ Q (.lst ((sbF wd ns s ns.length).1.map bxD)) (M.put b (bsM (sbF wd ns s ns.length).2))
theorem mono__law_small_boxed {K : PySem.W.Frag} : ∀ ds M (Q Q' : D → Mem → Prop), (∀ d M', Q d M' → Q' d M') → sp__law_small_boxed K ds M Q → sp__law_small_boxed K ds M Q' := by
  rintro ds M Q Q' hQQ ⟨b, s, ns, wd, k, e, hB, hs, hk, hn, hw0, hw1, q⟩
  exact ⟨b, s, ns, wd, k, e, hB, hs, hk, hn, hw0, hw1, (by first | exact hQQ _ _ q | exact fun M' => hQQ _ _ (q M') | exact fun M' a b => hQQ _ _ (q M' a b) | exact fun d M' a => hQQ _ _ (q d M' a) | exact fun M' a => hQQ _ _ (q M' a) | exact fun M' a b c => hQQ _ _ (q M' a b c) | exact fun M' a b c d => hQQ _ _ (q M' a b c d) | exact fun M' a b c d e => hQQ _ _ (q M' a b c d e))⟩
theorem ok__law_small_boxed (T : Top K mg) : Fg P w K mg base 2 "_law_small_boxed" ["_law_box_here", "_law_names_here", "_law_wide"] [] (sp__law_small_boxed K) := by
  obtain ⟨fd, F⟩ := F__law_small_boxed T
  refine fg_mk (fn_ok F sc__law_small_boxed (by rintro ds M Q ⟨_, _, _, _, _, rfl, _⟩; rfl) (by decide) fun cdv A outer s H E hr ds M Q hs => ?_) (g__law_small_boxed T) F.kp (F.bindsN fun _ _ _ _ _ _ us hl => match us, hl with | [_, _, _], _ => rfl)
  obtain ⟨b, s, ns, wd, k, rfl, hB, hs, hk, hn, hw0, hw1, q⟩ := hs
  have hnd := sc__law_small_boxed.nd
  show Jss _ [some (.obj b), some (.lst (ns.map .str)), some (.int wd), none, none, none, none] M (_ :: _) _
  refine j_setN 3 (n_lst a_nil) (fun f hf => ?_)
  have ne : b ≠ f := fun z => by
    rw [← z, hB] at hf
    cases hf
  have hsw : ∀ (u v : MO) (y : MO), ((M.put b u).put f y).put b v = (M.put b v).put f y := fun u v y => by rw [← put_comm ne, put_put, put_comm ne]
  refine j_for (fun i Γ' M' => M' = (M.put b (bsM (sbF wd ns s i).2)).put f (.lst ((sbF wd ns s i).1.map bxD)) ∧ ∃ o4 o5 o6, Γ' = [some (.obj b), some (.lst (ns.map .str)), some (.int wd), some (.obj f), o4, o5, o6]) (ds := ns.map .str) (k_lst (e_v 1 rfl)) (tg_n 4) ⟨by rw [show M.put b (bsM (sbF wd ns s 0).2) = M from put_id hB]; rfl, _, _, _, rfl⟩ ?_ ?_
  · rintro i x Γ' M' hx ⟨rfl, o4', o5', o6', rfl⟩
    rw [List.getElem?_map] at hx
    obtain ⟨n, hni, rfl⟩ := Option.map_eq_some_iff.mp hx
    have hi : i < ns.length := (List.getElem?_eq_some_iff.mp hni).1
    have eg : ns.getD i "" = n := by rw [List.getD_eq_getElem?_getD, hni]; rfl
    generalize hst : sbF wd ns s i = p
    have q0 : okB (k + 3 * i) p.2 := by rw [← hst]; exact sb_ok hs hw0 _ i
    have q1 : okB (k + 1 + 3 * i) (sbW wd p.2).2 := (tk_ok q0 (by omega)).mono (by omega)
    have q2 : okB (k + 2 + 3 * i) (sbA wd p.2).2 := (tk_ok q1 (by decide)).mono (by omega)
    have c0 : 0 ≤ (sbC wd p.2).1 := tk_ge (by decide)
    have c1 : (sbC wd p.2).1 < 3 := tk_lt (by decide)
    refine ⟨_, rfl, ?_⟩
    refine j_set 5 (d := .int (sbW wd p.2).1) (M1 := (M.put b (bsM (sbW wd p.2).2)).put f (.lst (p.1.map bxD))) (e_call (ok__law_take T) (hr.mono (by decide)) (a_cons (e_v 0 rfl) (a_cons (e_add (e_v 2 rfl) e_int) a_nil)) fun Q q => ⟨b, p.2, wd + 1, _, rfl, by rw [put_ne ne]; exact put_same, q0, by omega, by omega, by omega, by rw [hsw]; exact q⟩) ?_
    refine j_set 6 (d := .int (sbS wd p.2)) (M1 := (M.put b (bsM (sbC wd p.2).2)).put f (.lst (p.1.map bxD))) (e_ixL (ds := [0, 1, (sbA wd p.2).1 - 4].map .int) .fz (atI_pk c0 c1) (e_fz (n_lst (a_cons e_int (a_cons e_int (a_cons (e_sub (e_call (ok__law_take T) (hr.mono (by decide)) (a_cons (e_v 0 rfl) (a_cons e_int a_nil)) fun Q q => ⟨b, (sbW wd p.2).2, 9, _, rfl, by rw [put_ne ne]; exact put_same, q1, by omega, by omega, by omega, by rw [hsw]; exact q⟩) e_int) a_nil))))) (e_call (ok__law_take T) (hr.mono (by decide)) (a_cons (e_v 0 rfl) (a_cons e_int a_nil)) fun Q q => ⟨b, (sbA wd p.2).2, 3, _, rfl, by rw [put_ne ne]; exact put_same, q2, by omega, by omega, by omega, by rw [hsw]; exact q⟩)) ?_
    refine j_app (d := bxD (n, sbS wd p.2, sbS wd p.2 + (sbW wd p.2).1)) (e_v 3 rfl) (e_tup (a_cons (e_v 4 rfl) (a_cons (e_v 6 rfl) (a_cons (e_add (e_v 6 rfl) (e_v 5 rfl)) a_nil)))) put_same ?_ (j_nil ⟨?_, _, _, _, rfl⟩) put_same
    · have : p.1.length = i := by rw [← hst]; exact sb_len _ _ _ _
      rw [List.length_map]
      omega
    · rw [put_put]
      show _ = (M.put b (bsM (sbC wd (sbF wd ns s i).2).2)).put f (.lst (((sbF wd ns s i).1 ++ [(ns.getD i "", sbS wd (sbF wd ns s i).2, sbS wd (sbF wd ns s i).2 + (sbW wd (sbF wd ns s i).2).1)]).map bxD))
      rw [hst, eg, List.map_append]
      rfl
  · rintro Γ' M' ⟨rfl, o4', o5', o6', rfl⟩
    rw [List.length_map]
    have hfn : (M.put b (bsM (sbF wd ns s ns.length).2)) f = none := by
      rw [put_ne ne.symm]
      exact hf
    exact j_ret (M1 := M.put b (bsM (sbF wd ns s ns.length).2)) (e_fzM (M1 := (M.put b (bsM (sbF wd ns s ns.length).2)).put f (.lst ((sbF wd ns s ns.length).1.map bxD))) (e_v 3 rfl) put_same (le_new hfn) hfn) q
def sp__law_small_frame (K : PySem.W.Frag) : SpD := fun ds M Q => ∃ b : Addr, ∃ s : Bs, ∃ k : Nat, ds = [.obj b] ∧ M b = some (bsM s) ∧ okB k s ∧ k ≤ 800000 ∧ Q (tolD (sfMk s).1 (sfNu s).1) (M.put b (bsM (sfNu s).2))
theorem mono__law_small_frame {K : PySem.W.Frag} : ∀ ds M (Q Q' : D → Mem → Prop), (∀ d M', Q d M' → Q' d M') → sp__law_small_frame K ds M Q → sp__law_small_frame K ds M Q' := by
  rintro ds M Q Q' hQQ ⟨b, s, k, e, hB, hs, hk, q⟩
  exact ⟨b, s, k, e, hB, hs, hk, (by first | exact hQQ _ _ q | exact fun M' => hQQ _ _ (q M') | exact fun M' a b => hQQ _ _ (q M' a b) | exact fun d M' a => hQQ _ _ (q d M' a) | exact fun M' a => hQQ _ _ (q M' a) | exact fun M' a b c => hQQ _ _ (q M' a b c) | exact fun M' a b c d => hQQ _ _ (q M' a b c d) | exact fun M' a b c d e => hQQ _ _ (q M' a b c d e))⟩
theorem ok__law_small_frame (T : Top K mg) : Fg P w K mg base 3 "_law_small_frame" ["_law_box_here"] [] (sp__law_small_frame K) := by
  obtain ⟨fd, F⟩ := F__law_small_frame T
  refine fg_mk (fn_ok F sc__law_small_frame (by rintro ds M Q ⟨_, _, _, rfl, _⟩; rfl) (by decide) fun cdv A outer s H E hr ds M Q hs => ?_) (g__law_small_frame T) F.kp (F.bindsN fun _ _ _ _ _ _ us hl => match us, hl with | [_], _ => rfl)
  obtain ⟨b, s, k, rfl, hB, hs, hk, q⟩ := hs
  have hnd := sc__law_small_frame.nd
  show Jss _ [some (.obj b), none, none, none, none] M (_ :: _) _
  have o1 : okB (k + 1) (sfM s).2 := tk_ok hs (by decide)
  have o2 : okB (k + 2) (sfN s).2 := tk_ok o1 (by decide)
  have o3 : okB (k + 12) (sfNm s).2 := names_ok o2 _
  have o4 : okB (k + 13) (sfW s).2 := tk_ok o3 (by decide)
  obtain ⟨m1, m2, m3⟩ := sf_m s
  obtain ⟨n1, n2⟩ := sf_n s
  obtain ⟨w1, w2⟩ := sf_wd s
  have o5 : okB (k + 22) (sfMk s).2 := (sb_ok o4 (by omega) _ _).mono (by omega)
  have hl : (sfNm s).1.length = sfm s + sfn s := names_len _ (by omega)
  have c0 : 0 ≤ (sfW s).1 := tk_ge (by decide)
  have c1 : (sfW s).1 < 4 := tk_lt (by decide)
  have hp : pk [0, 0, 1, 2] (sfW s).1 ∈ [0, 0, 1, 2] := pk_in c0 c1
  simp only [List.mem_cons, List.not_mem_nil, or_false] at hp
  refine j_set 1 (d := .int (sfm s : Int)) (M1 := M.put b (bsM (sfM s).2)) (ev_is (e_add e_int (e_call (ok__law_take T) (hr.mono (by decide)) (a_cons (e_v 0 rfl) (a_cons e_int a_nil)) fun Q q => ⟨b, s, 3, k, rfl, hB, hs, by omega, by omega, by omega, q⟩)) (by rw [m3]; rfl)) ?_
  refine j_set 2 (d := .int (sfn s : Int)) (M1 := M.put b (bsM (sfN s).2)) (ev_is (e_call (ok__law_take T) (hr.mono (by decide)) (a_cons (e_v 0 rfl) (a_cons e_int a_nil)) fun Q q => ⟨b, (sfM s).2, 3, k + 1, rfl, put_same, o1, by omega, by omega, by omega, by rw [put_put]; exact q⟩) (by rw [n2]; rfl)) ?_
  refine j_set 3 (d := .lst ((sfNm s).1.map .str)) (M1 := M.put b (bsM (sfNm s).2)) (e_call (ok__law_names T) hr (a_cons (e_v 0 rfl) (a_cons (ev_is (d' := .int ((sfm s + sfn s : Nat) : Int)) (e_add (e_v 1 rfl) (e_v 2 rfl)) (by congr 1)) a_nil)) fun Q q => ⟨b, (sfN s).2, sfm s + sfn s, k + 2, rfl, put_same, o2, by omega, by omega, by omega, by rw [put_put]; exact q⟩) ?_
  refine j_set 4 (d := .int (sfWd s)) (M1 := M.put b (bsM (sfW s).2)) (e_ixL (ds := [3, 5, 11].map .int) .fz (atI_pk (sf_wi s).1 (sf_wi s).2) (e_fz (n_lst (a_cons e_int (a_cons e_int (a_cons e_int a_nil))))) (e_mul (.inl ⟨by omega, by omega⟩) (e_ixL (ds := [0, 0, 1, 2].map .int) .fz (atI_pk c0 c1) (e_fz (n_lst (a_cons e_int (a_cons e_int (a_cons e_int (a_cons e_int a_nil)))))) (e_call (ok__law_take T) (hr.mono (by decide)) (a_cons (e_v 0 rfl) (a_cons e_int a_nil)) fun Q q => ⟨b, (sfNm s).2, 4, k + 12, rfl, put_same, o3, by omega, by omega, by omega, by rw [put_put]; exact q⟩)) (e_intB (b_int T) (a_cons (e_lt (e_v 1 rfl) e_int) a_nil)))) ?_
  refine j_ret (M1 := M.put b (bsM (sfNu s).2)) (e_tup (a_cons (e_call (d := .lst ((sfMk s).1.map bxD)) (M2 := M.put b (bsM (sfMk s).2)) (ok__law_small_boxed T) hr (a_cons (e_v 0 rfl) (a_cons (ev_is (d' := .lst (((sfNm s).1.take (sfm s)).map .str)) (e_fz (n_slL .fz (e_v 3 rfl) o_none (o_some (e_v 1 rfl)))) (by rw [cut_take (by rw [List.length_map]; omega), List.map_take])) (a_cons (e_v 4 rfl) a_nil))) fun Q q => ⟨b, (sfW s).2, (sfNm s).1.take (sfm s), sfWd s, k + 13, rfl, put_same, o4, by omega, by rw [List.length_take]; omega, by omega, by omega, ?_⟩) (a_cons (e_call (d := .lst ((sfNu s).1.map bxD)) (M2 := M.put b (bsM (sfNu s).2)) (ok__law_small_boxed T) hr (a_cons (e_v 0 rfl) (a_cons (ev_is (d' := .lst (((sfNm s).1.drop (sfm s)).map .str)) (e_fz (n_slL .fz (e_v 3 rfl) (o_some (e_v 1 rfl)) o_none)) (by rw [cut_drop (by rw [List.length_map]; omega), List.map_drop])) (a_cons e_int a_nil))) fun Q q => ⟨b, (sfMk s).2, (sfNm s).1.drop (sfm s), 5, k + 22, rfl, put_same, o5, by omega, by rw [List.length_drop]; omega, by decide, by decide, ?_⟩) a_nil))) q
  · have e : ((sfNm s).1.take (sfm s)).length = sfm s := by
      rw [List.length_take]
      omega
    rw [e, put_put]
    exact q
  · have e : ((sfNm s).1.drop (sfm s)).length = sfn s := by
      rw [List.length_drop]
      omega
    rw [e, put_put]
    exact q
end H

set_option Elab.async false
set_option linter.all false
set_option maxRecDepth 100000
set_option maxHeartbeats 4000000
namespace H
open PySem PySem.Spec PyProof.Rows L2 PR
variable {P : Program} {w : World} {K : PySem.W.Frag} {mg : Str → Option Value} {base : Heap}

/-! ### sums, bounds, steps, wishes as they are drawn -/
def suA (s : Bs) : Int × Bs := tk s 7
def suB (s : Bs) : Int × Bs := tk (suA s).2 4
def suV (s : Bs) : Int := pk [0, 1, -1, (suA s).1 - 3] (suB s).1
def suX (m o i : Nat) (s : Bs) : Int := suV s * PR.b2i (decide ((i : Int) < (o : Int)) || decide ((m : Int) ≤ (i : Int)))
def suF (m o : Nat) (s : Bs) : Nat → List Int × Bs
  | 0 => ([], s)
  | i + 1 => ((suF m o s i).1 ++ [suX m o i (suF m o s i).2], (suB (suF m o s i).2).2)
def suE (m n o : Nat) (s : Bs) : Int × Bs := tk (suF m o s (m + n)).2 13
def sumF (m n o : Nat) (s : Bs) : List Int × Bs := ((suF m o s (m + n)).1 ++ [(suE m n o s).1 - 6], (suE m n o s).2)
theorem su_len (m o : Nat) (s : Bs) : ∀ i, (suF m o s i).1.length = i
  | 0 => rfl
  | i + 1 => by
    show ((suF m o s i).1 ++ [_]).length = i + 1
    rw [List.length_append, su_len m o s i]
    rfl
theorem su_ok {k : Nat} {s : Bs} (h : okB k s) (m o : Nat) : ∀ i, okB (k + 2 * i) (suF m o s i).2
  | 0 => h
  | i + 1 => by
    have a := su_ok h m o i
    have a1 : okB (k + 2 * i + 1) (suA (suF m o s i).2).2 := tk_ok a (by decide)
    exact tk_ok a1 (by decide)
theorem sum_ok {k : Nat} {s : Bs} (h : okB k s) {m n : Nat} (hn : m + n ≤ 5) (o : Nat) : okB (k + 11) (sumF m n o s).2 :=
  (tk_ok (su_ok h m o (m + n)) (by decide)).mono (by omega)
theorem sum_len (m n o : Nat) (s : Bs) : (sumF m n o s).1.length = m + n + 1 := by
  show ((suF m o s (m + n)).1 ++ [_]).length = _
  rw [List.length_append, su_len]
  rfl
theorem su_bd (s : Bs) : -3 ≤ suV s ∧ suV s ≤ 3 := by
  have a0 : 0 ≤ (suA s).1 := tk_ge (by decide)
  have a1 : (suA s).1 < 7 := tk_lt (by decide)
  have h : suV s ∈ [0, 1, -1, (suA s).1 - 3] := pk_in (tk_ge (by decide)) (tk_lt (by decide))
  simp only [List.mem_cons, List.not_mem_nil, or_false] at h
  omega
def gpA (s : Bs) : Int × Bs := tk s 4
def gpY (s : Bs) : Int := pk [1, 1, 2, 3] (gpA s).1
def gpB (m n o : Nat) (s : Bs) : Bd × Bs := ((gpY s, (sumF m n o (gpA s).2).1), (sumF m n o (gpA s).2).2)
def gpF (m n o : Nat) (s : Bs) : Nat → List Bd × Bs
  | 0 => ([], s)
  | i + 1 => ((gpF m n o s i).1 ++ [(gpB m n o (gpF m n o s i).2).1], (gpB m n o (gpF m n o s i).2).2)
def groupF (m n o : Nat) (s : Bs) : List Bd × Bs := gpF m n o (tk s 3).2 (tk s 3).1.toNat
theorem gp_ok {k : Nat} {s : Bs} (h : okB k s) {m n : Nat} (hn : m + n ≤ 5) (o : Nat) : ∀ i, okB (k + 12 * i) (gpF m n o s i).2
  | 0 => h
  | i + 1 => by
    have a := gp_ok h hn o i
    have a1 : okB (k + 12 * i + 1) (gpA (gpF m n o s i).2).2 := tk_ok a (by decide)
    exact (sum_ok a1 hn o).mono (by omega)
theorem gp_map (m n o : Nat) (s : Bs) : ∀ i, (List.range i).map (fun j => bdD (gpB m n o (gpF m n o s j).2).1) = (gpF m n o s i).1.map bdD
  | 0 => rfl
  | i + 1 => by
    rw [List.range_succ, List.map_append, gp_map m n o s i]
    show _ = ((gpF m n o s i).1 ++ [(gpB m n o (gpF m n o s i).2).1]).map bdD
    rw [List.map_append]
    rfl
theorem gp_len (m n o : Nat) (s : Bs) : ∀ i, (gpF m n o s i).1.length = i
  | 0 => rfl
  | i + 1 => by
    show ((gpF m n o s i).1 ++ [_]).length = i + 1
    rw [List.length_append, gp_len m n o s i]
    rfl
theorem t3 (s : Bs) : 0 ≤ (tk s 3).1 ∧ (tk s 3).1 < 3 := ⟨tk_ge (by decide), tk_lt (by decide)⟩
theorem group_ok {k : Nat} {s : Bs} (h : okB k s) {m n : Nat} (hn : m + n ≤ 5) (o : Nat) : okB (k + 25) (groupF m n o s).2 := by
  have a : okB (k + 1) (tk s 3).2 := tk_ok h (by decide)
  have := t3 s
  exact (gp_ok a hn o _).mono (by omega)
def gsF (m n o : Nat) (s : Bs) : Nat → List (List Bd) × Bs
  | 0 => ([], s)
  | i + 1 => ((gsF m n o s i).1 ++ [(groupF m n o (gsF m n o s i).2).1], (groupF m n o (gsF m n o s i).2).2)
def gsC (s : Bs) : Int × Bs := tk (tk s 3).2 6
def gsN (s : Bs) : Int := 1 + pk [0, 0, 0, 1, 2, 3] (gsC s).1
def groupsF (m n o : Nat) (s : Bs) : List (List Bd) × Bs := if (tk s 3).1 = 0 then ([[]], (tk s 3).2) else gsF m n o (gsC s).2 (gsN s).toNat
theorem gs_ok {k : Nat} {s : Bs} (h : okB k s) {m n : Nat} (hn : m + n ≤ 5) (o : Nat) : ∀ i, okB (k + 25 * i) (gsF m n o s i).2
  | 0 => h
  | i + 1 => (group_ok (gs_ok h hn o i) hn o).mono (by omega)
theorem gs_map (m n o : Nat) (s : Bs) : ∀ i, (List.range i).map (fun j => gpD (groupF m n o (gsF m n o s j).2).1) = (gsF m n o s i).1.map gpD
  | 0 => rfl
  | i + 1 => by
    rw [List.range_succ, List.map_append, gs_map m n o s i]
    show _ = ((gsF m n o s i).1 ++ [(groupF m n o (gsF m n o s i).2).1]).map gpD
    rw [List.map_append]
    rfl
theorem gs_len (m n o : Nat) (s : Bs) : ∀ i, (gsF m n o s i).1.length = i
  | 0 => rfl
  | i + 1 => by
    show ((gsF m n o s i).1 ++ [_]).length = i + 1
    rw [List.length_append, gs_len m n o s i]
    rfl
theorem gsN_bd (s : Bs) : 1 ≤ gsN s ∧ gsN s ≤ 4 := by
  have h : pk [0, 0, 0, 1, 2, 3] (gsC s).1 ∈ [0, 0, 0, 1, 2, 3] := pk_in (tk_ge (by decide)) (tk_lt (by decide))
  unfold gsN
  simp only [List.mem_cons, List.not_mem_nil, or_false] at h
  omega
theorem groups_ok {k : Nat} {s : Bs} (h : okB k s) {m n : Nat} (hn : m + n ≤ 5) (o : Nat) : okB (k + 102) (groupsF m n o s).2 := by
  have o1 : okB (k + 1) (tk s 3).2 := tk_ok h (by decide)
  have o2 : okB (k + 2) (gsC s).2 := tk_ok o1 (by decide)
  have := gsN_bd s
  unfold groupsF
  split
  · exact o1.mono (by omega)
  · exact (gs_ok o2 hn o _).mono (by omega)
def stY (s : Bs) : Int := 2 + (tk (tk s 3).2 4).1
def stS (m n o : Nat) (s : Bs) : List Int × Bs := sumF m n (o + 1) (tk (tk s 3).2 4).2
def stT (m n o : Nat) (s : Bs) : Int × Bs := tk (stS m n o s).2 4
def stV (m n o : Nat) (s : Bs) : Int := pk [1, -1, stY s + 1, 1 - stY s] (stT m n o s).1
def stepF (m n o : Nat) (s : Bs) : Option Bd × Bs := if 0 < (tk s 3).1 then (none, (tk s 3).2) else (some (stY s, (stS m n o s).1.set o (stV m n o s)), (stT m n o s).2)
theorem step_ok {k : Nat} {s : Bs} (h : okB k s) {m n : Nat} (hn : m + n ≤ 5) (o : Nat) : okB (k + 14) (stepF m n o s).2 := by
  have o1 : okB (k + 1) (tk s 3).2 := tk_ok h (by decide)
  have o2 : okB (k + 2) (tk (tk s 3).2 4).2 := tk_ok o1 (by decide)
  have o3 : okB (k + 13) (stS m n o s).2 := (sum_ok o2 hn _).mono (by omega)
  unfold stepF
  split
  · exact o1.mono (by omega)
  · exact tk_ok o3 (by decide)
def wishF (m n o : Nat) (s : Bs) : Ws × Bs := if (tk s 3).1 = 0 then (.even (stY s) (sumF m n o (tk (tk s 3).2 4).2).1, (sumF m n o (tk (tk s 3).2 4).2).2) else (.most (sumF m n o (tk s 3).2).1, (sumF m n o (tk s 3).2).2)
theorem wish_ok {k : Nat} {s : Bs} (h : okB k s) {m n : Nat} (hn : m + n ≤ 5) (o : Nat) : okB (k + 13) (wishF m n o s).2 := by
  have o1 : okB (k + 1) (tk s 3).2 := tk_ok h (by decide)
  have o2 : okB (k + 2) (tk (tk s 3).2 4).2 := tk_ok o1 (by decide)
  unfold wishF
  split
  · exact (sum_ok o2 hn _).mono (by omega)
  · exact (sum_ok o1 hn _).mono (by omega)

def sp__law_sum (K : PySem.W.Frag) : SpD := fun ds M Q => ∃ b : Addr, ∃ s : Bs, ∃ mk nu : List Bx, ∃ o k : Nat, ds = [.obj b, tolD mk nu, .int (o : Int)] ∧ M b = some (bsM s) ∧ okB k s ∧ k ≤ 900000 ∧ mk.length + nu.length ≤ 5 ∧ Q (sumD (sumF mk.length nu.length o s).1) (M.put b (bsM (sumF mk.length nu.length o s).2))
theorem mono__law_sum {K : PySem.W.Frag} : ∀ ds M (Q Q' : D → Mem → Prop), (∀ d M', Q d M' → Q' d M') → sp__law_sum K ds M Q → sp__law_sum K ds M Q' := by
  rintro ds M Q Q' hQQ ⟨b, s, mk, nu, o, k, e, hB, hs, hk, hn, q⟩
  exact ⟨b, s, mk, nu, o, k, e, hB, hs, hk, hn, (by first | exact hQQ _ _ q | exact fun M' => hQQ _ _ (q M') | exact fun M' a b => hQQ _ _ (q M' a b) | exact fun d M' a => hQQ _ _ (q d M' a) | exact fun M' a => hQQ _ _ (q M' a) | exact fun M' a b c => hQQ _ _ (q M' a b c) | exact fun M' a b c d => hQQ _ _ (q M' a b c d) | exact fun M' a b c d e => hQQ _ _ (q M' a b c d e))⟩
theorem ok__law_sum (T : Top K mg) : Fg P w K mg base 2 "_law_sum" ["_law_box_here", "_law_told", "_law_opened"] [] (sp__law_sum K) := by
  obtain ⟨fd, F⟩ := F__law_sum T
  refine fg_mk (fn_ok F sc__law_sum (by rintro ds M Q ⟨_, _, _, _, _, _, rfl, _⟩; rfl) (by decide) fun cdv A outer s H E hr ds M Q hs => ?_) (g__law_sum T) F.kp (F.bindsN fun _ _ _ _ _ _ us hl => match us, hl with | [_, _, _], _ => rfl)
  obtain ⟨b, s, mk, nu, o, k, rfl, hB, hs, hk, hn, q⟩ := hs
  have hnd := sc__law_sum.nd
  show Jss _ [some (.obj b), some (tolD mk nu), some (.int (o : Int)), none, none, none, none] M (_ :: _) _
  have oE : okB (k + 10) (suF mk.length o s (mk.length + nu.length)).2 := (su_ok hs _ _ _).mono (by omega)
  refine j_set 3 (d := .int (mk.length : Int)) (ev_is (e_lenL .fz (b_len T) (a_cons (e_ixT (ds := [PR.D.lst (mk.map bxD), .lst (nu.map bxD)]) (d := .lst (mk.map bxD)) rfl (e_v 1 rfl) e_int) a_nil)) (by rw [List.length_map])) ?_
  refine j_setN 4 (n_lst a_nil) (fun f hf => ?_)
  have ne : b ≠ f := fun z => by
    rw [← z, hB] at hf
    cases hf
  have hsw : ∀ (u v : MO) (y : MO), ((M.put b u).put f y).put b v = (M.put b v).put f y := fun u v y => by rw [← put_comm ne, put_put, put_comm ne]
  refine j_for (fun i Γ' M' => M' = (M.put b (bsM (suF mk.length o s i).2)).put f (.lst ((suF mk.length o s i).1.map .int)) ∧ ∃ o5 o6, Γ' = [some (.obj b), some (tolD mk nu), some (.int (o : Int)), some (.int (mk.length : Int)), some (.obj f), o5, o6]) (k_rg1 (j := (mk.length : Int) + (nu.length : Int)) (a_cons (e_add (e_v 3 rfl) (ev_is (e_lenL .fz (b_len T) (a_cons (e_ixT (ds := [PR.D.lst (mk.map bxD), .lst (nu.map bxD)]) (d := .lst (nu.map bxD)) rfl (e_v 1 rfl) e_int) a_nil)) (by rw [List.length_map]))) a_nil) ⟨by omega, by omega⟩ (b_range T)) (tg_n 5) ⟨by rw [show M.put b (bsM (suF mk.length o s 0).2) = M from put_id hB]; rfl, _, _, rfl⟩ ?_ ?_
  · rintro i x Γ' M' hx ⟨rfl, o5', o6', rfl⟩
    obtain ⟨hi, rfl⟩ := rg_at hx
    rw [Int.zero_add]
    have hi : i < 5 := by omega
    generalize hst : suF mk.length o s i = p
    have q0 : okB (k + 2 * i) p.2 := by rw [← hst]; exact su_ok hs _ _ i
    have q1 : okB (k + 1 + 2 * i) (suA p.2).2 := (tk_ok q0 (by decide)).mono (by omega)
    have c0 : 0 ≤ (suB p.2).1 := tk_ge (by decide)
    have c1 : (suB p.2).1 < 4 := tk_lt (by decide)
    obtain ⟨v0, v1⟩ := su_bd p.2
    refine ⟨_, rfl, ?_⟩
    refine j_set 6 (d := .int (suV p.2)) (M1 := (M.put b (bsM (suB p.2).2)).put f (.lst (p.1.map .int))) (e_ixL (ds := [0, 1, -1, (suA p.2).1 - 3].map .int) .fz (atI_pk c0 c1) (e_fz (n_lst (a_cons e_int (a_cons e_int (a_cons (e_neg e_int) (a_cons (e_sub (e_call (ok__law_take T) (hr.mono (by decide)) (a_cons (e_v 0 rfl) (a_cons e_int a_nil)) fun Q q => ⟨b, p.2, 7, _, rfl, by rw [put_ne ne]; exact put_same, q0, by omega, by omega, by omega, by rw [hsw]; exact q⟩) e_int) a_nil)))))) (e_call (ok__law_take T) (hr.mono (by decide)) (a_cons (e_v 0 rfl) (a_cons e_int a_nil)) fun Q q => ⟨b, (suA p.2).2, 4, _, rfl, by rw [put_ne ne]; exact put_same, q1, by omega, by omega, by omega, by rw [hsw]; exact q⟩)) ?_
    refine j_app (d := .int (suX mk.length o i p.2)) (e_v 4 rfl) (e_mul (.inl ⟨by omega, by omega⟩) (e_v 6 rfl) (e_intB (b_int T) (a_cons (e_or (e_lt (e_v 5 rfl) (e_v 2 rfl)) fun _ => e_one (e_ge (e_v 5 rfl) (e_v 3 rfl))) a_nil))) put_same ?_ (j_nil ⟨?_, _, _, rfl⟩) put_same
    · have : p.1.length = i := by rw [← hst]; exact su_len _ _ _ _
      rw [List.length_map]
      omega
    · rw [put_put]
      show _ = (M.put b (bsM (suB (suF mk.length o s i).2).2)).put f (.lst (((suF mk.length o s i).1 ++ [suX mk.length o i (suF mk.length o s i).2]).map .int))
      rw [hst, List.map_append]
      rfl
  · rintro Γ' M' ⟨rfl, o5', o6', rfl⟩
    have e : (rgD 0 ((mk.length : Int) + (nu.length : Int)).toNat).length = mk.length + nu.length := by
      rw [rg_len]
      omega
    rw [e]
    have hsl : (suF mk.length o s (mk.length + nu.length)).1.length = mk.length + nu.length := su_len _ _ _ _
    have hfn : (M.put b (bsM (suE mk.length nu.length o s).2)) f = none := by
      rw [put_ne ne.symm]
      exact hf
    refine j_ret (M1 := M.put b (bsM (suE mk.length nu.length o s).2)) (e_wk (M1 := (M.put b (bsM (suE mk.length nu.length o s).2)).put f (.lst ((suF mk.length o s (mk.length + nu.length)).1.map .int))) (ev_is (e_tupL (ds := (suF mk.length o s (mk.length + nu.length)).1.map .int ++ [.int ((suE mk.length nu.length o s).1 - 6)]) .fz (b_tuple T) (a_cons (e_fz (n_cat (.mu put_same) .fz (by rw [List.length_map, hsl]; show mk.length + nu.length + 1 ≤ 100000; omega) (e_v 4 rfl) (e_fz (n_lst (a_cons (e_sub (e_call (ok__law_take T) (hr.mono (by decide)) (a_cons (e_v 0 rfl) (a_cons e_int a_nil)) fun Q q => ⟨b, (suF mk.length o s (mk.length + nu.length)).2, 13, _, rfl, by rw [put_ne ne]; exact put_same, oE, by omega, by omega, by omega, by rw [hsw]; exact q⟩) e_int) a_nil))))) a_nil)) ?_) (le_new hfn)) q
    unfold sumD sumF
    rw [List.map_append]
    rfl
def sp__law_group (K : PySem.W.Frag) : SpD := fun ds M Q => ∃ b : Addr, ∃ s : Bs, ∃ mk nu : List Bx, ∃ o k : Nat, ds = [.obj b, tolD mk nu, .int (o : Int)] ∧ M b = some (bsM s) ∧ okB k s ∧ k ≤ 890000 ∧ mk.length + nu.length ≤ 5 ∧ Q (gpD (groupF mk.length nu.length o s).1) (M.put b (bsM (groupF mk.length nu.length o s).2))
theorem mono__law_group {K : PySem.W.Frag} : ∀ ds M (Q Q' : D → Mem → Prop), (∀ d M', Q d M' → Q' d M') → sp__law_group K ds M Q → sp__law_group K ds M Q' := by
  rintro ds M Q Q' hQQ ⟨b, s, mk, nu, o, k, e, hB, hs, hk, hn, q⟩
  exact ⟨b, s, mk, nu, o, k, e, hB, hs, hk, hn, (by first | exact hQQ _ _ q | exact fun M' => hQQ _ _ (q M') | exact fun M' a b => hQQ _ _ (q M' a b) | exact fun d M' a => hQQ _ _ (q d M' a) | exact fun M' a => hQQ _ _ (q M' a) | exact fun M' a b c => hQQ _ _ (q M' a b c) | exact fun M' a b c d => hQQ _ _ (q M' a b c d) | exact fun M' a b c d e => hQQ _ _ (q M' a b c d e))⟩
theorem ok__law_group (T : Top K mg) : Fg P w K mg base 3 "_law_group" ["_law_box_here", "_law_told", "_law_opened"] [] (sp__law_group K) := by
  obtain ⟨fd, F⟩ := F__law_group T
  refine fg_mk (fn_ok F sc__law_group (by rintro ds M Q ⟨_, _, _, _, _, _, rfl, _⟩; rfl) (by decide) fun cdv A outer s H E hr ds M Q hs => ?_) (g__law_group T) F.kp (F.bindsN fun _ _ _ _ _ _ us hl => match us, hl with | [_, _, _], _ => rfl)
  obtain ⟨b, s, mk, nu, o, k, rfl, hB, hs, hk, hn, q⟩ := hs
  have hnd := sc__law_group.nd
  show Jss _ [some (.obj b), some (tolD mk nu), some (.int (o : Int)), none] M (_ :: _) _
  have o1 : okB (k + 1) (tk s 3).2 := tk_ok hs (by decide)
  obtain ⟨a0, a1⟩ := t3 s
  have hrl : (rgD 0 (tk s 3).1.toNat).length = (tk s 3).1.toNat := rg_len _ _
  refine j_ret (d := gpD (groupF mk.length nu.length o s).1) (M1 := M.put b (bsM (groupF mk.length nu.length o s).2)) (ev_is (e_tupL .fz (b_tuple T) (a_cons (ev_is (e_fz (n_lcO (bx := b) (own := [("_law_k", 3)]) (fun j => bsM (gpF mk.length nu.length o (tk s 3).2 j).2) (fun j => bdD (gpB mk.length nu.length o (gpF mk.length nu.length o (tk s 3).2 j).2).1) (k_rg1 (j := (tk s 3).1) (M1 := M.put b (bsM (tk s 3).2)) (a_cons (e_call (ok__law_take T) (hr.mono (by decide)) (a_cons (e_v 0 rfl) (a_cons e_int a_nil)) fun Q q => ⟨b, s, 3, k, rfl, hB, hs, by omega, by omega, by omega, q⟩) a_nil) ⟨by omega, by omega⟩ (b_range T)) (fun s H C cl fp => tg_n 3) (by decide) put_same (fun j x hx => ?_) (by rw [hrl]; omega))) (by rw [hrl, gp_map]; rfl)) a_nil)) rfl (by rw [hrl, put_put]; rfl)) q
  obtain ⟨hj, rfl⟩ := rg_at hx
  generalize hst : gpF mk.length nu.length o (tk s 3).2 j = p
  have q0 : okB (k + 1 + 12 * j) p.2 := by rw [← hst]; exact gp_ok o1 hn o j
  have q1 : okB (k + 2 + 12 * j) (gpA p.2).2 := (tk_ok q0 (by decide)).mono (by omega)
  have c0 : 0 ≤ (gpA p.2).1 := tk_ge (by decide)
  have c1 : (gpA p.2).1 < 4 := tk_lt (by decide)
  refine ⟨_, rfl, fun N hN s0 H C cl fp => ?_⟩
  have hNb := hN _ _ put_same
  have eS : gpF mk.length nu.length o (tk s 3).2 (j + 1) = (p.1 ++ [(gpB mk.length nu.length o p.2).1], (gpB mk.length nu.length o p.2).2) := by
    rw [← hst]
    rfl
  rw [eS]
  exact e_tup (a_cons (e_ixL (ds := [1, 1, 2, 3].map .int) (M2 := N.put b (bsM (gpA p.2).2)) .fz (atI_pk c0 c1) (e_fz (n_lst (a_cons e_int (a_cons e_int (a_cons e_int (a_cons e_int a_nil)))))) (e_call (ok__law_take T) (hr.mono (by decide)) (a_cons (e_v 0 rfl) (a_cons e_int a_nil)) fun Q q => ⟨b, p.2, 4, _, rfl, hNb, q0, by omega, by omega, by omega, q⟩)) (a_cons (e_call (ok__law_sum T) (hr.mono (by decide)) (a_cons (e_v 0 rfl) (a_cons (e_v 1 rfl) (a_cons (e_v 2 rfl) a_nil))) fun Q q => ⟨b, (gpA p.2).2, mk, nu, o, _, rfl, put_same, q1, by omega, hn, by rw [put_put]; exact q⟩) a_nil))
def sp__law_groups (K : PySem.W.Frag) : SpD := fun ds M Q => ∃ b : Addr, ∃ s : Bs, ∃ mk nu : List Bx, ∃ o k : Nat, ds = [.obj b, tolD mk nu, .int (o : Int)] ∧ M b = some (bsM s) ∧ okB k s ∧ k ≤ 880000 ∧ mk.length + nu.length ≤ 5 ∧ Q (gsD (groupsF mk.length nu.length o s).1) (M.put b (bsM (groupsF mk.length nu.length o s).2))
theorem mono__law_groups {K : PySem.W.Frag} : ∀ ds M (Q Q' : D → Mem → Prop), (∀ d M', Q d M' → Q' d M') → sp__law_groups K ds M Q → sp__law_groups K ds M Q' := by
  rintro ds M Q Q' hQQ ⟨b, s, mk, nu, o, k, e, hB, hs, hk, hn, q⟩
  exact ⟨b, s, mk, nu, o, k, e, hB, hs, hk, hn, (by first | exact hQQ _ _ q | exact fun M' => hQQ _ _ (q M') | exact fun M' a b => hQQ _ _ (q M' a b) | exact fun d M' a => hQQ _ _ (q d M' a) | exact fun M' a => hQQ _ _ (q M' a) | exact fun M' a b c => hQQ _ _ (q M' a b c) | exact fun M' a b c d => hQQ _ _ (q M' a b c d) | exact fun M' a b c d e => hQQ _ _ (q M' a b c d e))⟩
theorem ok__law_groups (T : Top K mg) : Fg P w K mg base 4 "_law_groups" ["_law_box_here", "_law_told", "_law_opened"] [] (sp__law_groups K) := by
  obtain ⟨fd, F⟩ := F__law_groups T
  refine fg_mk (fn_ok F sc__law_groups (by rintro ds M Q ⟨_, _, _, _, _, _, rfl, _⟩; rfl) (by decide) fun cdv A outer s H E hr ds M Q hs => ?_) (g__law_groups T) F.kp (F.bindsN fun _ _ _ _ _ _ us hl => match us, hl with | [_, _, _], _ => rfl)
  obtain ⟨b, s, mk, nu, o, k, rfl, hB, hs, hk, hn, q⟩ := hs
  have hnd := sc__law_groups.nd
  show Jss _ [some (.obj b), some (tolD mk nu), some (.int (o : Int)), none] M (_ :: _) _
  have o1 : okB (k + 1) (tk s 3).2 := tk_ok hs (by decide)
  have o2 : okB (k + 2) (gsC s).2 := tk_ok o1 (by decide)
  have b0' : 0 ≤ (gsC s).1 := tk_ge (by decide)
  have b1' : (gsC s).1 < 6 := tk_lt (by decide)
  obtain ⟨y0, y1⟩ := gsN_bd s
  refine j_if (M1 := M.put b (bsM (tk s 3).2)) (t_eqI (e_call (ok__law_take T) (hr.mono (by decide)) (a_cons (e_v 0 rfl) (a_cons e_int a_nil)) fun Q q => ⟨b, s, 3, k, rfl, hB, hs, by omega, by omega, by omega, q⟩) e_int) (fun h => ?_) (fun h => j_nil ?_)
  · have he : (tk s 3).1 = 0 := of_decide_eq_true h
    unfold groupsF at q
    rw [if_pos he] at q
    exact j_ret (d := gsD [[]]) (e_tup (a_cons (e_tup a_nil) a_nil)) q
  have he : (tk s 3).1 ≠ 0 := of_decide_eq_false h
  unfold groupsF at q
  rw [if_neg he] at q
  have hrl : (rgD 0 (gsN s).toNat).length = (gsN s).toNat := rg_len _ _
  refine j_ret (d := gsD (gsF mk.length nu.length o (gsC s).2 (gsN s).toNat).1) (M1 := M.put b (bsM (gsF mk.length nu.length o (gsC s).2 (gsN s).toNat).2)) (ev_is (e_tupL .fz (b_tuple T) (a_cons (ev_is (e_fz (n_lcO (bx := b) (own := [("_law_k", 3)]) (fun j => bsM (gsF mk.length nu.length o (gsC s).2 j).2) (fun j => gpD (groupF mk.length nu.length o (gsF mk.length nu.length o (gsC s).2 j).2).1) (k_rg1 (j := gsN s) (M1 := M.put b (bsM (gsC s).2)) (a_cons (e_add (j := pk [0, 0, 0, 1, 2, 3] (gsC s).1) e_int (e_ixL (ds := [0, 0, 0, 1, 2, 3].map .int) .fz (atI_pk b0' b1') (e_fz (n_lst (a_cons e_int (a_cons e_int (a_cons e_int (a_cons e_int (a_cons e_int (a_cons e_int a_nil)))))))) (e_call (ok__law_take T) (hr.mono (by decide)) (a_cons (e_v 0 rfl) (a_cons e_int a_nil)) fun Q q => ⟨b, (tk s 3).2, 6, k + 1, rfl, put_same, o1, by omega, by omega, by omega, by rw [put_put]; exact q⟩))) a_nil) ⟨by omega, by omega⟩ (b_range T)) (fun s H C cl fp => tg_n 3) (by decide) put_same (fun j x hx => ?_) (by rw [hrl]; omega))) (by rw [hrl, gs_map])) a_nil)) rfl (by rw [hrl, put_put])) q
  obtain ⟨hj, rfl⟩ := rg_at hx
  have q0 : okB (k + 2 + 25 * j) (gsF mk.length nu.length o (gsC s).2 j).2 := gs_ok o2 hn o j
  refine ⟨_, rfl, fun N hN s0 H C cl fp => ?_⟩
  have hNb := hN _ _ put_same
  exact (e_call (ok__law_group T) (hr.mono (by decide)) (a_cons (e_v 0 rfl) (a_cons (e_v 1 rfl) (a_cons (e_v 2 rfl) a_nil))) fun Q q => ⟨b, (gsF mk.length nu.length o (gsC s).2 j).2, mk, nu, o, _, rfl, hNb, q0, by omega, hn, q⟩)
def sp__law_step (K : PySem.W.Frag) : SpD := fun ds M Q => ∃ b : Addr, ∃ s : Bs, ∃ mk nu : List Bx, ∃ o k : Nat, ds = [.obj b, tolD mk nu, .int (o : Int)] ∧ M b = some (bsM s) ∧ okB k s ∧ k ≤ 890000 ∧ mk.length + nu.length ≤ 5 ∧ o < mk.length ∧ Q (stD (stepF mk.length nu.length o s).1) (M.put b (bsM (stepF mk.length nu.length o s).2))
theorem mono__law_step {K : PySem.W.Frag} : ∀ ds M (Q Q' : D → Mem → Prop), (∀ d M', Q d M' → Q' d M') → sp__law_step K ds M Q → sp__law_step K ds M Q' := by
  rintro ds M Q Q' hQQ ⟨b, s, mk, nu, o, k, e, hB, hs, hk, hn, ho, q⟩
  exact ⟨b, s, mk, nu, o, k, e, hB, hs, hk, hn, ho, (by first | exact hQQ _ _ q | exact fun M' => hQQ _ _ (q M') | exact fun M' a b => hQQ _ _ (q M' a b) | exact fun d M' a => hQQ _ _ (q d M' a) | exact fun M' a => hQQ _ _ (q M' a) | exact fun M' a b c => hQQ _ _ (q M' a b c) | exact fun M' a b c d => hQQ _ _ (q M' a b c d) | exact fun M' a b c d e => hQQ _ _ (q M' a b c d e))⟩
theorem ok__law_step (T : Top K mg) : Fg P w K mg base 3 "_law_step" ["_law_box_here", "_law_told", "_law_opened"] [] (sp__law_step K) := by
  obtain ⟨fd, F⟩ := F__law_step T
  refine fg_mk (fn_ok F sc__law_step (by rintro ds M Q ⟨_, _, _, _, _, _, rfl, _⟩; rfl) (by decide) fun cdv A outer s H E hr ds M Q hs => ?_) (g__law_step T) F.kp (F.bindsN fun _ _ _ _ _ _ us hl => match us, hl with | [_, _, _], _ => rfl)
  obtain ⟨b, s, mk, nu, o, k, rfl, hB, hs, hk, hn, ho, q⟩ := hs
  have hnd := sc__law_step.nd
  show Jss _ [some (.obj b), some (tolD mk nu), some (.int (o : Int)), none, none] M (_ :: _) _
  have o1 : okB (k + 1) (tk s 3).2 := tk_ok hs (by decide)
  have o2 : okB (k + 2) (tk (tk s 3).2 4).2 := tk_ok o1 (by decide)
  have o3 : okB (k + 13) (stS mk.length nu.length o s).2 := (sum_ok o2 hn _).mono (by omega)
  have hsl : (stS mk.length nu.length o s).1.length = mk.length + nu.length + 1 := sum_len _ _ _ _
  have c0 : 0 ≤ (stT mk.length nu.length o s).1 := tk_ge (by decide)
  have c1 : (stT mk.length nu.length o s).1 < 4 := tk_lt (by decide)
  refine j_if (M1 := M.put b (bsM (tk s 3).2)) (t_gt (e_call (ok__law_take T) (hr.mono (by decide)) (a_cons (e_v 0 rfl) (a_cons e_int a_nil)) fun Q q => ⟨b, s, 3, k, rfl, hB, hs, by omega, by omega, by omega, q⟩) e_int) (fun h => ?_) (fun h => j_nil ?_)
  · have he : 0 < (tk s 3).1 := of_decide_eq_true h
    unfold stepF at q
    rw [if_pos he] at q
    exact j_ret (d := .non) e_non q
  have he : ¬ 0 < (tk s 3).1 := of_decide_eq_false h
  unfold stepF at q
  rw [if_neg he] at q
  refine j_set 3 (d := .int (stY s)) (M1 := M.put b (bsM (tk (tk s 3).2 4).2)) (e_add e_int (e_call (ok__law_take T) (hr.mono (by decide)) (a_cons (e_v 0 rfl) (a_cons e_int a_nil)) fun Q q => ⟨b, (tk s 3).2, 4, k + 1, rfl, put_same, o1, by omega, by omega, by omega, by rw [put_put]; exact q⟩)) ?_
  refine j_setN 4 (M1 := M.put b (bsM (stS mk.length nu.length o s).2)) (ds := (stS mk.length nu.length o s).1.map .int) (n_listT (b_list T) (a_cons (e_call (ok__law_sum T) (hr.mono (by decide)) (a_cons (e_v 0 rfl) (a_cons (e_v 1 rfl) (a_cons (e_add (e_v 2 rfl) e_int) a_nil))) fun Q q => ⟨b, (tk (tk s 3).2 4).2, mk, nu, o + 1, k + 2, rfl, put_same, o2, by omega, hn, by rw [put_put]; exact q⟩) a_nil)) (fun f hf => ?_)
  have ne : b ≠ f := fun z => by
    rw [← z, put_same] at hf
    cases hf
  have hsw : ∀ (u v : MO) (y : MO), ((M.put b u).put f y).put b v = (M.put b v).put f y := fun u v y => by rw [← put_comm ne, put_put, put_comm ne]
  refine j_ixset (d := .int (stV mk.length nu.length o s)) (M3 := (M.put b (bsM (stT mk.length nu.length o s).2)).put f (.lst ((stS mk.length nu.length o s).1.map .int))) (j := o) (e_ixL (ds := [1, -1, stY s + 1, 1 - stY s].map .int) .fz (atI_pk c0 c1) (e_fz (n_lst (a_cons e_int (a_cons (e_neg e_int) (a_cons (e_add (e_v 3 rfl) e_int) (a_cons (e_sub e_int (e_v 3 rfl)) a_nil)))))) (e_call (ok__law_take T) (hr.mono (by decide)) (a_cons (e_v 0 rfl) (a_cons e_int a_nil)) fun Q q => ⟨b, (stS mk.length nu.length o s).2, 4, _, rfl, by rw [put_ne ne]; exact put_same, o3, by omega, by omega, by omega, by rw [hsw]; exact q⟩)) (e_v 4 rfl) (e_v 2 rfl) put_same (by unfold L2.ixN; rw [List.length_map, hsl, if_pos (by omega), if_pos (by omega)]; rfl) ?_
  have hfn : (M.put b (bsM (stT mk.length nu.length o s).2)) f = none := by
    rw [put_ne ne.symm]
    rw [put_ne ne.symm] at hf
    exact hf
  rw [put_put]
  refine j_ret (d := bdD (stY s, (stS mk.length nu.length o s).1.set o (stV mk.length nu.length o s))) (M1 := M.put b (bsM (stT mk.length nu.length o s).2)) (e_wk (M1 := (M.put b (bsM (stT mk.length nu.length o s).2)).put f (.lst (((stS mk.length nu.length o s).1.map .int).set o (.int (stV mk.length nu.length o s))))) (e_tup (a_cons (e_v 3 rfl) (a_cons (ev_is (d' := sumD ((stS mk.length nu.length o s).1.set o (stV mk.length nu.length o s))) (e_tupL (.mu put_same) (b_tuple T) (a_cons (e_v 4 rfl) a_nil)) (by unfold sumD; rw [List.map_set])) a_nil))) (le_new hfn)) q
def sp__law_wish (K : PySem.W.Frag) : SpD := fun ds M Q => ∃ b : Addr, ∃ s : Bs, ∃ mk nu : List Bx, ∃ o k : Nat, ds = [.obj b, tolD mk nu, .int (o : Int)] ∧ M b = some (bsM s) ∧ okB k s ∧ k ≤ 890000 ∧ mk.length + nu.length ≤ 5 ∧ Q (wsD (wishF mk.length nu.length o s).1) (M.put b (bsM (wishF mk.length nu.length o s).2))
theorem mono__law_wish {K : PySem.W.Frag} : ∀ ds M (Q Q' : D → Mem → Prop), (∀ d M', Q d M' → Q' d M') → sp__law_wish K ds M Q → sp__law_wish K ds M Q' := by
  rintro ds M Q Q' hQQ ⟨b, s, mk, nu, o, k, e, hB, hs, hk, hn, q⟩
  exact ⟨b, s, mk, nu, o, k, e, hB, hs, hk, hn, (by first | exact hQQ _ _ q | exact fun M' => hQQ _ _ (q M') | exact fun M' a b => hQQ _ _ (q M' a b) | exact fun d M' a => hQQ _ _ (q d M' a) | exact fun M' a => hQQ _ _ (q M' a) | exact fun M' a b c => hQQ _ _ (q M' a b c) | exact fun M' a b c d => hQQ _ _ (q M' a b c d) | exact fun M' a b c d e => hQQ _ _ (q M' a b c d e))⟩
theorem ok__law_wish (T : Top K mg) : Fg P w K mg base 3 "_law_wish" ["_law_box_here", "_law_told", "_law_opened"] [] (sp__law_wish K) := by
  obtain ⟨fd, F⟩ := F__law_wish T
  refine fg_mk (fn_ok F sc__law_wish (by rintro ds M Q ⟨_, _, _, _, _, _, rfl, _⟩; rfl) (by decide) fun cdv A outer s H E hr ds M Q hs => ?_) (g__law_wish T) F.kp (F.bindsN fun _ _ _ _ _ _ us hl => match us, hl with | [_, _, _], _ => rfl)
  obtain ⟨b, s, mk, nu, o, k, rfl, hB, hs, hk, hn, q⟩ := hs
  have hnd := sc__law_wish.nd
  show Jss _ [some (.obj b), some (tolD mk nu), some (.int (o : Int))] M (_ :: _) _
  have o1 : okB (k + 1) (tk s 3).2 := tk_ok hs (by decide)
  have o2 : okB (k + 2) (tk (tk s 3).2 4).2 := tk_ok o1 (by decide)
  refine j_if (M1 := M.put b (bsM (tk s 3).2)) (t_eqI (e_call (ok__law_take T) (hr.mono (by decide)) (a_cons (e_v 0 rfl) (a_cons e_int a_nil)) fun Q q => ⟨b, s, 3, k, rfl, hB, hs, by omega, by omega, by omega, q⟩) e_int) (fun h => ?_) (fun h => j_nil ?_)
  · have he : (tk s 3).1 = 0 := of_decide_eq_true h
    unfold wishF at q
    rw [if_pos he] at q
    exact j_ret (d := wsD (.even (stY s) (sumF mk.length nu.length o (tk (tk s 3).2 4).2).1)) (M1 := M.put b (bsM (sumF mk.length nu.length o (tk (tk s 3).2 4).2).2)) (e_tup (a_cons e_str (a_cons (e_add (M2 := M.put b (bsM (tk (tk s 3).2 4).2)) e_int (e_call (ok__law_take T) (hr.mono (by decide)) (a_cons (e_v 0 rfl) (a_cons e_int a_nil)) fun Q q => ⟨b, (tk s 3).2, 4, k + 1, rfl, put_same, o1, by omega, by omega, by omega, by rw [put_put]; exact q⟩)) (a_cons (e_call (ok__law_sum T) (hr.mono (by decide)) (a_cons (e_v 0 rfl) (a_cons (e_v 1 rfl) (a_cons (e_v 2 rfl) a_nil))) fun Q q => ⟨b, (tk (tk s 3).2 4).2, mk, nu, o, k + 2, rfl, put_same, o2, by omega, hn, by rw [put_put]; exact q⟩) a_nil)))) q
  have he : (tk s 3).1 ≠ 0 := of_decide_eq_false h
  unfold wishF at q
  rw [if_neg he] at q
  exact j_ret (d := wsD (.most (sumF mk.length nu.length o (tk s 3).2).1)) (M1 := M.put b (bsM (sumF mk.length nu.length o (tk s 3).2).2)) (e_tup (a_cons e_str (a_cons (e_call (ok__law_sum T) (hr.mono (by decide)) (a_cons (e_v 0 rfl) (a_cons (e_v 1 rfl) (a_cons (e_v 2 rfl) a_nil))) fun Q q => ⟨b, (tk s 3).2, mk, nu, o, k + 1, rfl, put_same, o1, by omega, hn, by rw [put_put]; exact q⟩) a_nil))) q
end H

set_option Elab.async false
set_option linter.all false
set_option maxRecDepth 100000
set_option maxHeartbeats 4000000
namespace H
open PySem PySem.Spec PyProof.Rows L2 PR
variable {P : Program} {w : World} {K : PySem.W.Frag} {mg : Str → Option Value} {base : Heap}

/-! ### nodes as they are drawn -/
def wsF (m n o : Nat) (s : Bs) : Nat → List Ws × Bs
  | 0 => ([], s)
  | i + 1 => ((wsF m n o s i).1 ++ [(wishF m n o (wsF m n o s i).2).1], (wishF m n o (wsF m n o s i).2).2)
def wsN (m n o : Nat) (s : Bs) : List Ws × Bs := wsF m n o (tk s 3).2 (1 + (tk s 3).1).toNat
theorem ws_ok {k : Nat} {s : Bs} (h : okB k s) {m n : Nat} (hn : m + n ≤ 5) (o : Nat) : ∀ i, okB (k + 13 * i) (wsF m n o s i).2
  | 0 => h
  | i + 1 => (wish_ok (ws_ok h hn o i) hn o).mono (by omega)
theorem ws_map (m n o : Nat) (s : Bs) : ∀ i, (List.range i).map (fun j => wsD (wishF m n o (wsF m n o s j).2).1) = (wsF m n o s i).1.map wsD
  | 0 => rfl
  | i + 1 => by
    rw [List.range_succ, List.map_append, ws_map m n o s i]
    show _ = ((wsF m n o s i).1 ++ [(wishF m n o (wsF m n o s i).2).1]).map wsD
    rw [List.map_append]
    rfl
theorem ws_len (m n o : Nat) (s : Bs) : ∀ i, (wsF m n o s i).1.length = i
  | 0 => rfl
  | i + 1 => by
    show ((wsF m n o s i).1 ++ [_]).length = i + 1
    rw [List.length_append, ws_len m n o s i]
    rfl
theorem wsN_ok {k : Nat} {s : Bs} (h : okB k s) {m n : Nat} (hn : m + n ≤ 5) (o : Nat) : okB (k + 40) (wsN m n o s).2 := by
  have o1 : okB (k + 1) (tk s 3).2 := tk_ok h (by decide)
  have := t3 s
  exact (ws_ok o1 hn o _).mono (by omega)
def wds : List Str := ["a", "b", "work", "zzzzzz"]
def lwF (m n o : Nat) (s : Bs) : List (List Bd) × Bs := groupsF m n o s
def hgF (m n o : Nat) (s : Bs) : List (List Bd) × Bs := groupsF m n o (lwF m n o s).2
def spF (m n o : Nat) (s : Bs) : Option Bd × Bs := stepF m n o (hgF m n o s).2
def ndA (s : Bs) : Int × Bs := tk s 5
def ndB (s : Bs) : Int × Bs := tk (ndA s).2 2
def ndM (dp : Nat) (s : Bs) : Int := pk [1, pk [1, 1, 2, 0, 3] (ndA s).1, 1 + (ndB s).1] (PR.b2i (decide ((1 : Int) < (dp : Int))) + PR.b2i (decide ((3 : Int) < (dp : Int))))
def ndOne (mk : List Bx) (n o dp : Nat) (R : Nat → Bs → List Nd × Bs) (s : Bs) : List Nd × Bs :=
  if o = mk.length ∧ (0 < (tk s 4).1 ∨ dp < 2) then ([.deed (wds.getD (tk (tk s 4).2 4).1.toNat "")], (tk (tk s 4).2 4).2)
  else if 1 < dp ∧ (tk s 4).1 = 0 then ([.test (wsN mk.length n o (tk s 4).2).1 (R o (wsN mk.length n o (tk s 4).2).2).1], (R o (wsN mk.length n o (tk s 4).2).2).2)
  else if o < mk.length ∧ 1 < dp then ([.rnd (mk.getD o ("", 0, 0)).1 o (mk.getD o ("", 0, 0)).2.1 (mk.getD o ("", 0, 0)).2.2 (lwF mk.length n o (tk s 4).2).1 (hgF mk.length n o (tk s 4).2).1 (spF mk.length n o (tk s 4).2).1 (R (o + 1) (spF mk.length n o (tk s 4).2).2).1], (R (o + 1) (spF mk.length n o (tk s 4).2).2).2)
  else ([], (tk s 4).2)
def ndL (one : Bs → List Nd × Bs) (s : Bs) : Nat → List Nd × Bs
  | 0 => ([], s)
  | i + 1 => ((ndL one s i).1 ++ (one (ndL one s i).2).1, (one (ndL one s i).2).2)
def nodesF (mk : List Bx) (n : Nat) : Nat → Nat → Bs → List Nd × Bs
  | 0, _, s => ([], s)
  | dp + 1, o, s => ndL (ndOne mk n o (dp + 1) (nodesF mk n dp)) (ndB s).2 (ndM (dp + 1) s).toNat
def ndK : Nat → Nat
  | 0 => 0
  | dp + 1 => 2 + (if 3 < dp + 1 then 2 else 3) * (230 + ndK dp)
theorem ndM_bd (dp : Nat) (s : Bs) : 0 ≤ ndM dp s ∧ ndM dp s ≤ (if 3 < dp then 2 else 3) := by
  have h1 : pk [1, 1, 2, 0, 3] (ndA s).1 ∈ [1, 1, 2, 0, 3] := pk_in (tk_ge (by decide)) (tk_lt (by decide))
  have b0 : 0 ≤ (ndB s).1 := tk_ge (by decide)
  have b1 : (ndB s).1 < 2 := tk_lt (by decide)
  simp only [List.mem_cons, List.not_mem_nil, or_false] at h1
  unfold ndM PR.b2i
  by_cases d1 : 1 < dp
  · rw [decide_eq_true (show (1 : Int) < (dp : Int) by omega), if_pos rfl]
    by_cases d3 : 3 < dp
    · rw [decide_eq_true (show (3 : Int) < (dp : Int) by omega), if_pos rfl, if_pos d3]
      show 0 ≤ 1 + (ndB s).1 ∧ 1 + (ndB s).1 ≤ 2
      omega
    · rw [decide_eq_false (show ¬ (3 : Int) < (dp : Int) by omega), if_neg (by decide), if_neg d3]
      show 0 ≤ pk [1, 1, 2, 0, 3] (ndA s).1 ∧ pk [1, 1, 2, 0, 3] (ndA s).1 ≤ 3
      omega
  · rw [decide_eq_false (show ¬ (1 : Int) < (dp : Int) by omega), decide_eq_false (show ¬ (3 : Int) < (dp : Int) by omega), if_neg (by decide), if_neg (show ¬ 3 < dp by omega)]
    show (0 : Int) ≤ 1 ∧ (1 : Int) ≤ 3
    decide
theorem rounds_ok {k : Nat} {s : Bs} (h : okB k s) {m n : Nat} (hn : m + n ≤ 5) (o : Nat) : okB (k + 102) (lwF m n o s).2 ∧ okB (k + 204) (hgF m n o s).2 ∧ okB (k + 218) (spF m n o s).2 := by
  have h1 : okB (k + 102) (lwF m n o s).2 := groups_ok h hn o
  have h2 : okB (k + 204) (hgF m n o s).2 := groups_ok h1 hn o
  exact ⟨h1, h2, step_ok h2 hn o⟩
theorem one_ok {k K0 : Nat} {s : Bs} (h : okB k s) {mk : List Bx} {n : Nat} (hn : mk.length + n ≤ 5) (o dp : Nat) {R : Nat → Bs → List Nd × Bs} (hR : ∀ j o s, okB j s → okB (j + K0) (R o s).2) : okB (k + (230 + K0)) (ndOne mk n o dp R s).2 := by
  have o1 : okB (k + 1) (tk s 4).2 := tk_ok h (by decide)
  unfold ndOne
  split
  · exact (tk_ok o1 (by decide)).mono (by omega)
  · split
    · exact (hR _ _ _ (wsN_ok o1 hn o)).mono (by omega)
    · split
      · exact (hR _ _ _ (rounds_ok o1 hn o).2.2).mono (by omega)
      · exact o1.mono (by omega)
theorem ndl_ok {one : Bs → List Nd × Bs} {C : Nat} (ho : ∀ j s, okB j s → okB (j + C) (one s).2) {k : Nat} {s : Bs} (h : okB k s) : ∀ i, okB (k + i * C) (ndL one s i).2
  | 0 => by rw [Nat.zero_mul]; exact h
  | i + 1 => (ho _ _ (ndl_ok ho h i)).mono (by rw [Nat.add_mul]; omega)
theorem nodes_ok {mk : List Bx} {n : Nat} (hn : mk.length + n ≤ 5) : ∀ dp k o s, okB k s → okB (k + ndK dp) (nodesF mk n dp o s).2
  | 0, k, o, s, h => h
  | dp + 1, k, o, s, h => by
    have o1 : okB (k + 1) (ndA s).2 := tk_ok h (by decide)
    have o2 : okB (k + 2) (ndB s).2 := tk_ok o1 (by decide)
    obtain ⟨m0, m1⟩ := ndM_bd (dp + 1) s
    have key := ndl_ok (one := ndOne mk n o (dp + 1) (nodesF mk n dp)) (C := 230 + ndK dp) (fun j s hj => one_ok hj hn o (dp + 1) fun j o s hj => nodes_ok hn dp j o s hj) o2 (ndM (dp + 1) s).toNat
    refine key.mono ?_
    have hle : (ndM (dp + 1) s).toNat ≤ if 3 < dp + 1 then 2 else 3 := by
      split
      · rename_i h3
        rw [if_pos h3] at m1
        omega
      · rename_i h3
        rw [if_neg h3] at m1
        omega
    have := Nat.mul_le_mul_right (230 + ndK dp) hle
    show k + 2 + (ndM (dp + 1) s).toNat * (230 + ndK dp) ≤ k + (2 + (if 3 < dp + 1 then 2 else 3) * (230 + ndK dp))
    omega
theorem pDs_app : ∀ a b : List Nd, pDs (a ++ b) = pDs a ++ pDs b
  | [], _ => rfl
  | x :: a, b => by
    show pD x :: pDs (a ++ b) = _
    rw [pDs_app a b]
    rfl
theorem one_len (mk : List Bx) (n o dp : Nat) (R : Nat → Bs → List Nd × Bs) (s : Bs) : (ndOne mk n o dp R s).1.length ≤ 1 := by
  unfold ndOne
  split
  · exact Nat.le_refl 1
  · split
    · exact Nat.le_refl 1
    · split
      · exact Nat.le_refl 1
      · exact Nat.zero_le 1
theorem ndl_len {one : Bs → List Nd × Bs} (ho : ∀ s, (one s).1.length ≤ 1) (s : Bs) : ∀ i, (ndL one s i).1.length ≤ i
  | 0 => Nat.le_refl 0
  | i + 1 => by
    have := ndl_len ho s i
    have := ho (ndL one s i).2
    show ((ndL one s i).1 ++ (one (ndL one s i).2).1).length ≤ i + 1
    rw [List.length_append]
    omega
theorem pds_len' (ps : List Nd) : (pDs ps).length = ps.length := by
  induction ps with
  | nil => rfl
  | cons a r ih =>
    show (pDs r).length + 1 = r.length + 1
    rw [ih]
def sp__law_nodes (K : PySem.W.Frag) (dp : Nat) : SpD := fun ds M Q => ∃ b : Addr, ∃ s : Bs, ∃ mk nu : List Bx, ∃ o k : Nat, ds = [.obj b, tolD mk nu, .int (o : Int), .int (dp : Int)] ∧ M b = some (bsM s) ∧ okB k s ∧ k + ndK dp ≤ 800000 ∧ mk.length + nu.length ≤ 5 ∧ o ≤ mk.length ∧ 1 ≤ dp ∧ dp ≤ 6 ∧ Q (.tup (pDs (nodesF mk nu.length dp o s).1)) (M.put b (bsM (nodesF mk nu.length dp o s).2))

theorem dec_a {o m dp : Nat} {w : Int} : (decide ((o : Int) = (m : Int)) && (decide (0 < w) || decide (((dp : Nat) : Int) < 2))) = decide (o = m ∧ (0 < w ∨ dp < 2)) := by
  rw [Bool.eq_iff_iff]
  simp only [Bool.and_eq_true, Bool.or_eq_true, decide_eq_true_eq]
  omega
theorem dec_b {dp : Nat} {w : Int} : (decide (1 < ((dp : Nat) : Int)) && decide (w = 0)) = decide (1 < dp ∧ w = 0) := by
  rw [Bool.eq_iff_iff]
  simp only [Bool.and_eq_true, decide_eq_true_eq]
  omega
theorem dec_c {o m dp : Nat} : (decide ((o : Int) < (m : Int)) && decide (1 < ((dp : Nat) : Int))) = decide (o < m ∧ 1 < dp) := by
  rw [Bool.eq_iff_iff]
  simp only [Bool.and_eq_true, decide_eq_true_eq]
  omega
theorem atI_wds {r : Int} (h1 : 0 ≤ r) (h2 : r < 4) : L2.atI (wds.map PR.D.str) r = some (.str (wds.getD r.toNat "")) := by
  obtain ⟨n, rfl⟩ := Int.eq_ofNat_of_zero_le h1
  have hn : n < 4 := by omega
  match n, hn with
  | 0, _ => rfl
  | 1, _ => rfl
  | 2, _ => rfl
  | 3, _ => rfl
theorem step__law_nodes (T : Top K mg) (dp : Nat) (IH : ∀ d, dp = d + 1 → Fg P w K mg base (d + 5) "_law_nodes" ["_law_box_here", "_law_told", "_law_opened", "_law_deep"] [] (sp__law_nodes K d)) : Fg P w K mg base (dp + 5) "_law_nodes" ["_law_box_here", "_law_told", "_law_opened", "_law_deep"] [] (sp__law_nodes K dp) := by
  obtain ⟨fd, F⟩ := F__law_nodes T
  refine fg_mk (fn_ok (sp := sp__law_nodes K dp) F sc__law_nodes (by rintro ds M Q ⟨_, _, _, _, _, _, rfl, _⟩; rfl) (by decide) fun cdv A outer s0 H E hr ds M Q hs0 => ?_) (g__law_nodes T) F.kp (F.bindsN fun _ _ _ _ _ _ us hl => match us, hl with | [_, _, _, _], _ => rfl)
  obtain ⟨b, s, mk, nu, o, k, rfl, hB, hs, hk, hn, ho, hd1, hd6, q⟩ := hs0
  have hnd := sc__law_nodes.nd
  show Jss _ [some (.obj b), some (tolD mk nu), some (.int (o : Int)), some (.int (dp : Int)), none, none, none, none, none, none, none, none] M (_ :: _) _
  obtain ⟨dq, rfl⟩ : ∃ dq, dp = dq + 1 := ⟨dp - 1, by omega⟩
  have IH := IH dq rfl
  have hkk : k + (2 + (if 3 < dq + 1 then 2 else 3) * (230 + ndK dq)) ≤ 800000 := hk
  have o1 : okB (k + 1) (ndA s).2 := tk_ok hs (by decide)
  have o2 : okB (k + 2) (ndB s).2 := tk_ok o1 (by decide)
  have a0 : 0 ≤ (ndA s).1 := tk_ge (by decide)
  have a1 : (ndA s).1 < 5 := tk_lt (by decide)
  obtain ⟨m0, m1⟩ := ndM_bd (dq + 1) s
  have hle : (ndM (dq + 1) s).toNat ≤ if 3 < dq + 1 then 2 else 3 := by
    split
    · rename_i h3
      rw [if_pos h3] at m1
      omega
    · rename_i h3
      rw [if_neg h3] at m1
      omega
  have hm3 : ndM (dq + 1) s ≤ 3 := by
    split at m1 <;> omega
  have hix : 0 ≤ PR.b2i (decide ((1 : Int) < ((dq + 1 : Nat) : Int))) + PR.b2i (decide ((3 : Int) < ((dq + 1 : Nat) : Int))) ∧ PR.b2i (decide ((1 : Int) < ((dq + 1 : Nat) : Int))) + PR.b2i (decide ((3 : Int) < ((dq + 1 : Nat) : Int))) < 3 := by
    unfold PR.b2i
    split <;> split <;> omega
  have q : Q (.tup (pDs (ndL (ndOne mk nu.length o (dq + 1) (nodesF mk nu.length dq)) (ndB s).2 (ndM (dq + 1) s).toNat).1)) (M.put b (bsM (ndL (ndOne mk nu.length o (dq + 1) (nodesF mk nu.length dq)) (ndB s).2 (ndM (dq + 1) s).toNat).2)) := q
  have hone : ∀ j s, okB j s → okB (j + (230 + ndK dq)) (ndOne mk nu.length o (dq + 1) (nodesF mk nu.length dq) s).2 := fun j s hj => one_ok hj hn o (dq + 1) fun j o s hj => nodes_ok hn dq j o s hj
  generalize hstep : ndOne mk nu.length o (dq + 1) (nodesF mk nu.length dq) = one at q hone
  have hlen1 : ∀ s, (one s).1.length ≤ 1 := fun s => by rw [← hstep]; exact one_len _ _ _ _ _ _
  refine j_setN 4 (n_lst a_nil) (fun f hf => ?_)
  have ne : b ≠ f := fun z => by
    rw [← z, hB] at hf
    cases hf
  have hsw : ∀ (u v : MO) (y : MO), ((M.put b u).put f y).put b v = (M.put b v).put f y := fun u v y => by rw [← put_comm ne, put_put, put_comm ne]
  refine j_for (M1 := (M.put b (bsM (ndB s).2)).put f (.lst [])) (fun i Γ' M' => M' = (M.put b (bsM (ndL one (ndB s).2 i).2)).put f (.lst (pDs (ndL one (ndB s).2 i).1)) ∧ ∃ o5 o6 o7 o8 o9 o10 o11, Γ' = [some (.obj b), some (tolD mk nu), some (.int (o : Int)), some (.int ((dq + 1 : Nat) : Int)), some (.obj f), o5, o6, o7, o8, o9, o10, o11]) (k_rg1 (j := ndM (dq + 1) s) (M1 := (M.put b (bsM (ndB s).2)).put f (.lst [])) (a_cons (e_ixL (ds := [1, pk [1, 1, 2, 0, 3] (ndA s).1, 1 + (ndB s).1].map .int) .fz (atI_pk hix.1 hix.2) (e_fz (n_lst (a_cons e_int (a_cons (e_ixL (ds := [1, 1, 2, 0, 3].map .int) .fz (atI_pk a0 a1) (e_fz (n_lst (a_cons e_int (a_cons e_int (a_cons e_int (a_cons e_int (a_cons e_int a_nil))))))) (e_call (M2 := (M.put b (bsM (ndA s).2)).put f (.lst [])) (ok__law_take T) (hr.mono (by omega)) (a_cons (e_v 0 rfl) (a_cons e_int a_nil)) fun Q q => ⟨b, s, 5, k, rfl, by rw [put_ne ne]; exact hB, hs, by omega, by omega, by omega, by rw [← put_comm ne]; exact q⟩)) (a_cons (e_add e_int (e_call (ok__law_take T) (hr.mono (by omega)) (a_cons (e_v 0 rfl) (a_cons e_int a_nil)) fun Q q => ⟨b, (ndA s).2, 2, k + 1, rfl, by rw [put_ne ne]; exact put_same, o1, by omega, by omega, by omega, by rw [hsw]; exact q⟩)) a_nil))))) (e_add (e_intB (b_int T) (a_cons (e_gt (e_v 3 rfl) e_int) a_nil)) (e_intB (b_int T) (a_cons (e_gt (e_v 3 rfl) e_int) a_nil)))) a_nil) ⟨by omega, by omega⟩ (b_range T)) (tg_n 5) ⟨rfl, _, _, _, _, _, _, _, rfl⟩ ?_ ?_
  · rintro i x Γ' M' hx ⟨rfl, o5', o6', o7', o8', o9', o10', o11', rfl⟩
    obtain ⟨hi, rfl⟩ := rg_at hx
    have hpl := ndl_len hlen1 (ndB s).2 i
    have q0' : okB (k + 2 + i * (230 + ndK dq)) (ndL one (ndB s).2 i).2 := ndl_ok hone o2 i
    have hib : i * (230 + ndK dq) + (230 + ndK dq) ≤ (if 3 < dq + 1 then 2 else 3) * (230 + ndK dq) := by
      have h1 : i + 1 ≤ if 3 < dq + 1 then 2 else 3 := by omega
      have h2 := Nat.mul_le_mul_right (230 + ndK dq) h1
      rw [Nat.add_mul, Nat.one_mul] at h2
      exact h2
    have hnext : ndL one (ndB s).2 (i + 1) = ((ndL one (ndB s).2 i).1 ++ (one (ndL one (ndB s).2 i).2).1, (one (ndL one (ndB s).2 i).2).2) := rfl
    rw [hnext]
    generalize ndL one (ndB s).2 i = p at hpl q0' ⊢
    obtain ⟨kk, hkq⟩ : ∃ kk, kk = k + 2 + i * (230 + ndK dq) := ⟨_, rfl⟩
    have q0 : okB kk p.2 := by rw [hkq]; exact q0'
    have hkb : kk + 230 + ndK dq ≤ 800000 := by omega
    have q1 : okB (kk + 1) (tk p.2 4).2 := tk_ok q0 (by decide)
    have w0 : 0 ≤ (tk p.2 4).1 := tk_ge (by decide)
    have w1 : (tk p.2 4).1 < 4 := tk_lt (by decide)
    have hpl2 : (pDs p.1).length < 100000 := by
      rw [pds_len']
      omega
    rw [← hstep]
    refine ⟨_, rfl, ?_⟩
    refine j_set 6 (d := .int (tk p.2 4).1) (M1 := (M.put b (bsM (tk p.2 4).2)).put f (.lst (pDs p.1))) (e_call (ok__law_take T) (hr.mono (by omega)) (a_cons (e_v 0 rfl) (a_cons e_int a_nil)) fun Q q => ⟨b, p.2, 4, _, rfl, by rw [put_ne ne]; exact put_same, q0, by omega, by omega, by omega, by rw [hsw]; exact q⟩) ?_
    refine j_if (evt_is (q := decide (o = mk.length ∧ (0 < (tk p.2 4).1 ∨ dq + 1 < 2))) (t_w (w_and (t_eqI (e_v 2 rfl) (ev_is (e_lenL .fz (b_len T) (a_cons (e_ixT (ds := [PR.D.lst (mk.map bxD), .lst (nu.map bxD)]) (d := .lst (mk.map bxD)) rfl (e_v 1 rfl) e_int) a_nil)) (by rw [List.length_map]))) fun _ => w_one (t_w (w_or (t_gt (e_v 6 rfl) e_int) fun _ => w_one (t_lt (e_v 3 rfl) e_int))))) dec_a) (fun h => ?_) (fun h => ?_)
    · have he := of_decide_eq_true h
      have e1 : ndOne mk nu.length o (dq + 1) (nodesF mk nu.length dq) p.2 = ([.deed (wds.getD (tk (tk p.2 4).2 4).1.toNat "")], (tk (tk p.2 4).2 4).2) := if_pos he
      have c0 : 0 ≤ (tk (tk p.2 4).2 4).1 := tk_ge (by decide)
      have c1 : (tk (tk p.2 4).2 4).1 < 4 := tk_lt (by decide)
      rw [e1]
      refine j_app (d := pD (.deed (wds.getD (tk (tk p.2 4).2 4).1.toNat ""))) (ds := pDs p.1) (M2 := (M.put b (bsM (tk (tk p.2 4).2 4).2)).put f (.lst (pDs p.1))) (e_v 4 rfl) (e_tup (a_cons e_str (a_cons (e_ixL (ds := wds.map .str) .fz (atI_wds c0 c1) (e_fz (n_lst (a_cons e_str (a_cons e_str (a_cons e_str (a_cons e_str a_nil)))))) (e_call (ok__law_take T) (hr.mono (by omega)) (a_cons (e_v 0 rfl) (a_cons e_int a_nil)) fun Q q => ⟨b, (tk p.2 4).2, 4, _, rfl, by rw [put_ne ne]; exact put_same, q1, by omega, by omega, by omega, by rw [hsw]; exact q⟩)) a_nil))) put_same hpl2 (j_nil (j_nil ⟨?_, _, _, _, _, _, _, _, rfl⟩)) put_same
      rw [put_put, pDs_app]
      rfl
    have he := of_decide_eq_false h
    refine j_if (evt_is (q := decide (1 < dq + 1 ∧ (tk p.2 4).1 = 0)) (t_w (w_and (t_gt (e_v 3 rfl) e_int) fun _ => w_one (t_eqI (e_v 6 rfl) e_int))) dec_b) (fun h2 => ?_) (fun h2 => ?_)
    · have he2 := of_decide_eq_true h2
      have e1 : ndOne mk nu.length o (dq + 1) (nodesF mk nu.length dq) p.2 = ([.test (wsN mk.length nu.length o (tk p.2 4).2).1 (nodesF mk nu.length dq o (wsN mk.length nu.length o (tk p.2 4).2).2).1], (nodesF mk nu.length dq o (wsN mk.length nu.length o (tk p.2 4).2).2).2) := (if_neg he).trans (if_pos he2)
      rw [e1]
      have q2 : okB (kk + 2) (tk (tk p.2 4).2 3).2 := tk_ok q1 (by decide)
      obtain ⟨u0, u1⟩ := t3 (tk p.2 4).2
      have q3 : okB (kk + 41) (wsN mk.length nu.length o (tk p.2 4).2).2 := wsN_ok q1 hn o
      have hrl : (rgD 0 (1 + (tk (tk p.2 4).2 3).1).toNat).length = (1 + (tk (tk p.2 4).2 3).1).toNat := rg_len _ _
      refine j_set 7 (d := .tup ((wsN mk.length nu.length o (tk p.2 4).2).1.map wsD)) (M1 := (M.put b (bsM (wsN mk.length nu.length o (tk p.2 4).2).2)).put f (.lst (pDs p.1))) (ev_is (e_tupL .fz (b_tuple T) (a_cons (ev_is (e_fz (n_lcO (bx := b) (own := [("_law_j", 11)]) (fun j => bsM (wsF mk.length nu.length o (tk (tk p.2 4).2 3).2 j).2) (fun j => wsD (wishF mk.length nu.length o (wsF mk.length nu.length o (tk (tk p.2 4).2 3).2 j).2).1) (k_rg1 (j := 1 + (tk (tk p.2 4).2 3).1) (M1 := (M.put b (bsM (tk (tk p.2 4).2 3).2)).put f (.lst (pDs p.1))) (a_cons (e_add e_int (e_call (ok__law_take T) (hr.mono (by omega)) (a_cons (e_v 0 rfl) (a_cons e_int a_nil)) fun Q q => ⟨b, (tk p.2 4).2, 3, _, rfl, by rw [put_ne ne]; exact put_same, q1, by omega, by omega, by omega, by rw [hsw]; exact q⟩)) a_nil) ⟨by omega, by omega⟩ (b_range T)) (fun s H C cl fp => tg_n 11) (by decide) (by rw [put_ne ne]; exact put_same) (fun j x hx => ?_) (by rw [hrl]; omega))) (by rw [hrl, ws_map]; rfl)) a_nil)) rfl (by rw [hrl, hsw]; rfl)) ?_
      · obtain ⟨hj, rfl⟩ := rg_at hx
        have hj3 : j < 3 := by omega
        have qj : okB (kk + 2 + 13 * j) (wsF mk.length nu.length o (tk (tk p.2 4).2 3).2 j).2 := ws_ok q2 hn o j
        refine ⟨_, rfl, fun N hN s0 H C cl fp => ?_⟩
        exact e_call (ok__law_wish T) (hr.mono (by omega)) (a_cons (e_v 0 rfl) (a_cons (e_v 1 rfl) (a_cons (e_v 2 rfl) a_nil))) fun Q q => ⟨b, _, mk, nu, o, _, rfl, hN _ _ put_same, qj, by omega, hn, q⟩
      refine j_app (d := pD (.test (wsN mk.length nu.length o (tk p.2 4).2).1 (nodesF mk nu.length dq o (wsN mk.length nu.length o (tk p.2 4).2).2).1)) (ds := pDs p.1) (M2 := (M.put b (bsM (nodesF mk nu.length dq o (wsN mk.length nu.length o (tk p.2 4).2).2).2)).put f (.lst (pDs p.1))) (e_v 4 rfl) (e_tup (a_cons e_str (a_cons (e_v 7 rfl) (a_cons (e_call IH (hr.mono (by omega)) (a_cons (e_v 0 rfl) (a_cons (e_v 1 rfl) (a_cons (e_v 2 rfl) (a_cons (ev_is (d' := .int (dq : Int)) (e_sub (e_v 3 rfl) e_int) (by congr 1; omega)) a_nil)))) fun Q q => ⟨b, _, mk, nu, o, kk + 41, rfl, by rw [put_ne ne]; exact put_same, q3, by omega, hn, ho, by omega, by omega, by rw [hsw]; exact q⟩) a_nil)))) put_same hpl2 (j_nil (j_nil (j_nil ⟨?_, _, _, _, _, _, _, _, rfl⟩))) put_same
      rw [put_put, pDs_app]
      rfl
    have he2 := of_decide_eq_false h2
    refine j_if (evt_is (q := decide (o < mk.length ∧ 1 < dq + 1)) (t_w (w_and (t_lt (e_v 2 rfl) (ev_is (e_lenL .fz (b_len T) (a_cons (e_ixT (ds := [PR.D.lst (mk.map bxD), .lst (nu.map bxD)]) (d := .lst (mk.map bxD)) rfl (e_v 1 rfl) e_int) a_nil)) (by rw [List.length_map]))) fun _ => w_one (t_gt (e_v 3 rfl) e_int))) dec_c) (fun h3 => ?_) (fun h3 => j_nil (j_nil (j_nil (j_nil ⟨?_, _, _, _, _, _, _, _, rfl⟩))))
    · have he3 := of_decide_eq_true h3
      have ho' : o < mk.length := he3.1
      obtain ⟨r1, r2, r3⟩ := rounds_ok q1 hn o
      generalize hbx : mk.getD o ("", 0, 0) = bx
      have hbx' : (mk.map bxD)[o]? = some (bxD bx) := by
        rw [List.getElem?_map, List.getElem?_eq_getElem ho', ← hbx, List.getD_eq_getElem?_getD, List.getElem?_eq_getElem ho']
        rfl
      have e1 : ndOne mk nu.length o (dq + 1) (nodesF mk nu.length dq) p.2 = ([.rnd bx.1 o bx.2.1 bx.2.2 (lwF mk.length nu.length o (tk p.2 4).2).1 (hgF mk.length nu.length o (tk p.2 4).2).1 (spF mk.length nu.length o (tk p.2 4).2).1 (nodesF mk nu.length dq (o + 1) (spF mk.length nu.length o (tk p.2 4).2).2).1], (nodesF mk nu.length dq (o + 1) (spF mk.length nu.length o (tk p.2 4).2).2).2) := by
        rw [← hbx]
        exact (if_neg he).trans ((if_neg he2).trans (if_pos he3))
      rw [e1]
      refine j_set 8 (d := gsD (lwF mk.length nu.length o (tk p.2 4).2).1) (M1 := (M.put b (bsM (lwF mk.length nu.length o (tk p.2 4).2).2)).put f (.lst (pDs p.1))) (e_call (ok__law_groups T) (hr.mono (by omega)) (a_cons (e_v 0 rfl) (a_cons (e_v 1 rfl) (a_cons (e_v 2 rfl) a_nil))) fun Q q => ⟨b, (tk p.2 4).2, mk, nu, o, _, rfl, by rw [put_ne ne]; exact put_same, q1, by omega, hn, by rw [hsw]; exact q⟩) ?_
      refine j_set 9 (d := gsD (hgF mk.length nu.length o (tk p.2 4).2).1) (M1 := (M.put b (bsM (hgF mk.length nu.length o (tk p.2 4).2).2)).put f (.lst (pDs p.1))) (e_call (ok__law_groups T) (hr.mono (by omega)) (a_cons (e_v 0 rfl) (a_cons (e_v 1 rfl) (a_cons (e_v 2 rfl) a_nil))) fun Q q => ⟨b, (lwF mk.length nu.length o (tk p.2 4).2).2, mk, nu, o, _, rfl, by rw [put_ne ne]; exact put_same, r1, by omega, hn, by rw [hsw]; exact q⟩) ?_
      refine j_set 10 (d := stD (spF mk.length nu.length o (tk p.2 4).2).1) (M1 := (M.put b (bsM (spF mk.length nu.length o (tk p.2 4).2).2)).put f (.lst (pDs p.1))) (e_call (ok__law_step T) (hr.mono (by omega)) (a_cons (e_v 0 rfl) (a_cons (e_v 1 rfl) (a_cons (e_v 2 rfl) a_nil))) fun Q q => ⟨b, (hgF mk.length nu.length o (tk p.2 4).2).2, mk, nu, o, _, rfl, by rw [put_ne ne]; exact put_same, r2, by omega, hn, ho', by rw [hsw]; exact q⟩) ?_
      refine j_app (d := pD (.rnd bx.1 o bx.2.1 bx.2.2 (lwF mk.length nu.length o (tk p.2 4).2).1 (hgF mk.length nu.length o (tk p.2 4).2).1 (spF mk.length nu.length o (tk p.2 4).2).1 (nodesF mk nu.length dq (o + 1) (spF mk.length nu.length o (tk p.2 4).2).2).1)) (ds := pDs p.1) (M2 := (M.put b (bsM (nodesF mk nu.length dq (o + 1) (spF mk.length nu.length o (tk p.2 4).2).2).2)).put f (.lst (pDs p.1))) (e_v 4 rfl) (e_tup (a_cons e_str (a_cons (e_ixT (ds := [.str bx.1, .int bx.2.1, .int bx.2.2]) (d := .str bx.1) rfl (e_ixL (ds := mk.map bxD) (d := bxD bx) .fz (atI_nat hbx') (e_ixT (ds := [PR.D.lst (mk.map bxD), .lst (nu.map bxD)]) (d := .lst (mk.map bxD)) rfl (e_v 1 rfl) e_int) (e_v 2 rfl)) e_int) (a_cons (e_v 8 rfl) (a_cons (e_v 9 rfl) (a_cons (e_v 10 rfl) (a_cons (e_call IH (hr.mono (by omega)) (a_cons (e_v 0 rfl) (a_cons (e_v 1 rfl) (a_cons (e_add (e_v 2 rfl) e_int) (a_cons (ev_is (d' := .int (dq : Int)) (e_sub (e_v 3 rfl) e_int) (by congr 1; omega)) a_nil)))) fun Q q => ⟨b, _, mk, nu, o + 1, kk + 219, rfl, by rw [put_ne ne]; exact put_same, r3, by omega, hn, by omega, by omega, by omega, by rw [hsw]; exact q⟩) a_nil))))))) put_same hpl2 (j_nil (j_nil (j_nil (j_nil ⟨?_, _, _, _, _, _, _, _, rfl⟩)))) put_same
      rw [put_put, pDs_app]
      rfl
    · have he3 := of_decide_eq_false h3
      have e1 : ndOne mk nu.length o (dq + 1) (nodesF mk nu.length dq) p.2 = ([], (tk p.2 4).2) := (if_neg he).trans ((if_neg he2).trans (if_neg he3))
      rw [e1, List.append_nil]
  · rintro Γ' M' ⟨rfl, o5', o6', o7', o8', o9', o10', o11', rfl⟩
    rw [rg_len]
    have hfn : (M.put b (bsM (ndL one (ndB s).2 (ndM (dq + 1) s).toNat).2)) f = none := by
      rw [put_ne ne.symm]
      exact hf
    exact j_ret (e_wk (M1 := (M.put b (bsM (ndL one (ndB s).2 (ndM (dq + 1) s).toNat).2)).put f (.lst (pDs (ndL one (ndB s).2 (ndM (dq + 1) s).toNat).1))) (e_tupL (.mu put_same) (b_tuple T) (a_cons (e_v 4 rfl) a_nil)) (le_new hfn)) q
theorem ok__law_nodes (T : Top K mg) : ∀ dp, Fg P w K mg base (dp + 5) "_law_nodes" ["_law_box_here", "_law_told", "_law_opened", "_law_deep"] [] (sp__law_nodes K dp)
  | 0 => step__law_nodes T 0 fun d h => absurd h (Nat.succ_ne_zero d).symm
  | dp + 1 => step__law_nodes T (dp + 1) fun d h => by
    cases h
    exact ok__law_nodes T dp

end H

set_option Elab.async false
set_option linter.all false
set_option maxRecDepth 100000
set_option maxHeartbeats 4000000
namespace H
open PySem PySem.Spec PyProof.Rows L2 PR
variable {P : Program} {w : World} {K : PySem.W.Frag} {mg : Str → Option Value} {base : Heap}

/-! ### sizes -/
def hN : Nat → Nd → Prop
  | 0, _ => False
  | _ + 1, .deed _ => True
  | k + 1, .test _ b => b.length ≤ 100 ∧ ∀ n ∈ b, hN k n
  | k + 1, .rnd _ _ _ _ _ _ _ b => b.length ≤ 100 ∧ ∀ n ∈ b, hN k n
def szl (ps : List Nd) : List Int := (List.range ps.length).map fun i => (sz (ps.getD i (.deed "")) : Int)
theorem szl_sum : ∀ ps : List Nd, (szl ps).sum = (szs ps : Int)
  | [] => rfl
  | a :: r => by
    have ih := szl_sum r
    have e : szl (a :: r) = (sz a : Int) :: szl r := by
      unfold szl
      rw [List.length_cons, List.range_succ_eq_map, List.map_cons, List.map_map]
      rfl
    rw [e, List.sum_cons, ih]
    show (sz a : Int) + (szs r : Int) = ((sz a + szs r : Nat) : Int)
    rw [Int.natCast_add]
theorem szl_map (ps : List Nd) : (List.range (pDs ps).length).map (fun i => PR.D.int (sz (ps.getD i (.deed "")) : Int)) = (szl ps).map .int := by
  unfold szl
  rw [pds_len', List.map_map]
  rfl
theorem pd_at {ps : List Nd} {i : Nat} {x : PR.D} (h : (pDs ps)[i]? = some x) : ∃ n, ps[i]? = some n ∧ x = pD n := by
  rw [pDs_map, List.getElem?_map] at h
  obtain ⟨n, h1, h2⟩ := Option.map_eq_some_iff.mp h
  exact ⟨n, h1, h2.symm⟩
def sp__law_size (K : PySem.W.Frag) (k : Nat) : SpD := fun ds M Q => ∃ ps : List Nd, ds = [.tup (pDs ps)] ∧ ps.length ≤ 100 ∧ (∀ n ∈ ps, hN k n) ∧ Q (.int (szs ps : Int)) M
theorem step__law_size (T : Top K mg) (k : Nat) (IH : ∀ d, k = d + 1 → Fg P w K mg base (d + 1) "_law_size" ["_law_nodes_here"] [] (sp__law_size K d)) : Fg P w K mg base (k + 1) "_law_size" ["_law_nodes_here"] [] (sp__law_size K k) := by
  obtain ⟨fd, F⟩ := F__law_size T
  refine fg_mk (fn_ok (sp := sp__law_size K k) F sc__law_size (by rintro ds M Q ⟨_, rfl, _⟩; rfl) (by decide) fun cdv A outer s H E hr ds M Q hs => ?_) (g__law_size T) F.kp (F.bindsN fun _ _ _ _ _ _ us hl => match us, hl with | [_], _ => rfl)
  obtain ⟨ps, rfl, hl, hn, q⟩ := hs
  have hnd := sc__law_size.nd
  show Jss _ [some (.tup (pDs ps)), none] M (_ :: _) _
  refine j_ret (ev_is (e_sum (ns := szl ps) .fz (b_sum T) (a_cons (ev_is (e_fz (lc_n (lcI (own := [("_law_node", 1)]) (fun i => .int (sz (ps.getD i (.deed "")) : Int)) (k_tup (e_v 0 rfl)) (fun s H C cl fp => tg_n 1) (by decide) (fun i x hx => ?_) (by rw [pds_len']; omega)))) (by rw [szl_map])) a_nil)) (by rw [szl_sum])) q
  obtain ⟨n, hni, rfl⟩ := pd_at hx
  have e : ps.getD i (.deed "") = n := by rw [List.getD_eq_getElem?_getD, hni]; rfl
  have hmem := hn n (List.mem_of_getElem? hni)
  refine ⟨_, rfl, fun N hN' s0 H C cl fp => ?_⟩
  rw [e]
  cases n with
  | deed wd => exact e_ife (p := false) (evt_is (t_neS (s := "deed") (e_ixT (d := .str "deed") rfl (e_v 1 rfl) e_int) e_str) (by decide)) (fun h => by cases h) (fun _ => e_int)
  | test ts bd =>
    cases k with
    | zero => exact hmem.elim
    | succ k => exact e_ife (p := true) (evt_is (t_neS (s := "test") (e_ixT (d := .str "test") rfl (e_v 1 rfl) e_int) e_str) (by decide)) (fun _ => ev_is (e_add e_int (e_call (d := .int (szs bd : Int)) (IH k rfl) hr (a_cons (e_ixT (d := .tup (pDs bd)) rfl (e_v 1 rfl) (e_neg e_int)) a_nil) fun Q q => ⟨bd, rfl, hmem.1, hmem.2, q⟩)) (by show _ = PR.D.int ((1 + szs bd : Nat) : Int); rw [Int.natCast_add]; rfl)) (fun h => by cases h)
  | rnd nm sp lo hi l h st bd =>
    cases k with
    | zero => exact hmem.elim
    | succ k => exact e_ife (p := true) (evt_is (t_neS (s := "round") (e_ixT (d := .str "round") rfl (e_v 1 rfl) e_int) e_str) (by decide)) (fun _ => ev_is (e_add e_int (e_call (d := .int (szs bd : Int)) (IH k rfl) hr (a_cons (e_ixT (d := .tup (pDs bd)) rfl (e_v 1 rfl) (e_neg e_int)) a_nil) fun Q q => ⟨bd, rfl, hmem.1, hmem.2, q⟩)) (by show _ = PR.D.int ((1 + szs bd : Nat) : Int); rw [Int.natCast_add]; rfl)) (fun h => by cases h)
theorem ok__law_size (T : Top K mg) : ∀ k, Fg P w K mg base (k + 1) "_law_size" ["_law_nodes_here"] [] (sp__law_size K k)
  | 0 => step__law_size T 0 fun d h => absurd h (Nat.succ_ne_zero d).symm
  | k + 1 => step__law_size T (k + 1) fun d h => by
    cases h
    exact ok__law_size T k

end H

set_option Elab.async false
set_option linter.all false
set_option maxRecDepth 100000
set_option maxHeartbeats 4000000
namespace H
open PySem PySem.Spec PyProof.Rows L2 PR
variable {P : Program} {w : World} {K : PySem.W.Frag} {mg : Str → Option Value} {base : Heap}

/-! ### great parts -/
theorem rep1a {α : Type} (n : Nat) (a : α) : (List.replicate n [a]).flatten = List.replicate n a := by
  induction n with
  | zero => rfl
  | succ n ih =>
    rw [List.replicate_succ, List.flatten_cons, ih, List.replicate_succ]
    rfl
def grA (m n o : Nat) (s : Bs) : List Int × Bs := sumF m n o s
def grC (m n o : Nat) (s : Bs) : List Int × Bs := sumF m n o (grA m n o s).2
def grL (a c : List Int) : List (List Bd) := (List.replicate 5 [List.replicate 60 ((1 : Int), a), [], [((3 : Int), c)], []]).flatten
def grS (m n o : Nat) (s : Bs) : Option Bd × Bs := stepF m n o (grC m n o s).2
def gtF (mk : List Bx) (n : Nat) (s : Bs) : Nat → List Nd × Bs
  | 0 => (List.replicate 60 (.deed "a"), s)
  | i + 1 => ([.rnd (mk.getD (mk.length - 1 - i) ("", 0, 0)).1 (mk.length - 1 - i) (mk.getD (mk.length - 1 - i) ("", 0, 0)).2.1 (mk.getD (mk.length - 1 - i) ("", 0, 0)).2.2 (grL (grA mk.length n (mk.length - 1 - i) (gtF mk n s i).2).1 (grC mk.length n (mk.length - 1 - i) (gtF mk n s i).2).1) (grL (grA mk.length n (mk.length - 1 - i) (gtF mk n s i).2).1 (grC mk.length n (mk.length - 1 - i) (gtF mk n s i).2).1).reverse (grS mk.length n (mk.length - 1 - i) (gtF mk n s i).2).1 (gtF mk n s i).1], (grS mk.length n (mk.length - 1 - i) (gtF mk n s i).2).2)
def tsW (ws : List Ws) (b : List Nd) : Nat → List Nd
  | 0 => b
  | t + 1 => [.test ws (tsW ws b t)]
def gtW (mk : List Bx) (n : Nat) (s : Bs) : Ws × Bs := wishF mk.length n 0 (gtF mk n s mk.length).2
def greatF (mk : List Bx) (n : Nat) (s : Bs) : List Nd × Bs := (tsW (List.replicate 60 (gtW mk n s).1) (gtF mk n s mk.length).1 (9 - mk.length), (gtW mk n s).2)
theorem gt_ok {k : Nat} {s : Bs} (h : okB k s) {mk : List Bx} {n : Nat} (hn : mk.length + n ≤ 5) : ∀ i, okB (k + 40 * i) (gtF mk n s i).2
  | 0 => h
  | i + 1 => by
    have a := gt_ok h hn i
    have a1 : okB (k + 40 * i + 11) (grA mk.length n (mk.length - 1 - i) (gtF mk n s i).2).2 := sum_ok a hn _
    have a2 : okB (k + 40 * i + 22) (grC mk.length n (mk.length - 1 - i) (gtF mk n s i).2).2 := (sum_ok a1 hn _).mono (by omega)
    exact (step_ok a2 hn _).mono (by omega)
theorem great_ok {k : Nat} {s : Bs} (h : okB k s) {mk : List Bx} {n : Nat} (hn : mk.length + n ≤ 5) : okB (k + 213) (greatF mk n s).2 :=
  (wish_ok (gt_ok h hn mk.length) hn 0).mono (by omega)
theorem grL_map (a c : List Int) : gsD (grL a c) = .tup (List.replicate 5 [PR.D.tup (List.replicate 60 (bdD (1, a))), .tup [], .tup [bdD (3, c)], .tup []]).flatten := by
  unfold gsD grL
  rw [List.map_flatten, List.map_replicate]
  show PR.D.tup (List.replicate 5 [gpD (List.replicate 60 ((1 : Int), a)), gpD [], gpD [((3 : Int), c)], gpD []]).flatten = _
  unfold gpD
  rw [List.map_replicate]
  rfl
theorem grL_rev (a c : List Int) : PR.D.tup ((grL a c).map gpD).reverse = gsD (grL a c).reverse := by
  unfold gsD
  rw [List.map_reverse]
theorem deeds_map : (PR.D.tup (List.replicate 60 [pD (.deed "a")]).flatten) = .tup (pDs (List.replicate 60 (.deed "a"))) := by
  rw [rep1a, pDs_map, List.map_replicate]

def sp__law_great (K : PySem.W.Frag) : SpD := fun ds M Q => ∃ b : Addr, ∃ s : Bs, ∃ mk nu : List Bx, ∃ k : Nat, ds = [.obj b, tolD mk nu] ∧ M b = some (bsM s) ∧ okB k s ∧ k ≤ 800000 ∧ mk.length + nu.length ≤ 5 ∧ mk.length ≤ 3 ∧ Q (.tup (pDs (greatF mk nu.length s).1)) (M.put b (bsM (greatF mk nu.length s).2))
theorem mono__law_great {K : PySem.W.Frag} : ∀ ds M (Q Q' : D → Mem → Prop), (∀ d M', Q d M' → Q' d M') → sp__law_great K ds M Q → sp__law_great K ds M Q' := by
  rintro ds M Q Q' hQQ ⟨b, s, mk, nu, k, e, hB, hs, hk, hn, hm, q⟩
  exact ⟨b, s, mk, nu, k, e, hB, hs, hk, hn, hm, (by first | exact hQQ _ _ q | exact fun M' => hQQ _ _ (q M') | exact fun M' a b => hQQ _ _ (q M' a b) | exact fun d M' a => hQQ _ _ (q d M' a) | exact fun M' a => hQQ _ _ (q M' a) | exact fun M' a b c => hQQ _ _ (q M' a b c) | exact fun M' a b c d => hQQ _ _ (q M' a b c d) | exact fun M' a b c d e => hQQ _ _ (q M' a b c d e))⟩
theorem ok__law_great (T : Top K mg) : Fg P w K mg base 6 "_law_great" ["_law_box_here", "_law_told"] [] (sp__law_great K) := by
  obtain ⟨fd, F⟩ := F__law_great T
  refine fg_mk (fn_ok F sc__law_great (by rintro ds M Q ⟨_, _, _, _, _, rfl, _⟩; rfl) (by decide) fun cdv A outer s H E hr ds M Q hs => ?_) (g__law_great T) F.kp (F.bindsN fun _ _ _ _ _ _ us hl => match us, hl with | [_, _], _ => rfl)
  obtain ⟨b, s, mk, nu, k, rfl, hB, hs, hk, hn, hm, q⟩ := hs
  have hnd := sc__law_great.nd
  show Jss _ [some (.obj b), some (tolD mk nu), none, none, none, none, none] M (_ :: _) _
  refine j_set 2 (d := .tup (pDs (List.replicate 60 (.deed "a")))) (ev_is (e_repT (ds := [pD (.deed "a")]) (by simp) ⟨by decide, by decide⟩ (Nat.le_of_ble_eq_true rfl) (e_tup (a_cons (e_tup (a_cons e_str (a_cons e_str a_nil))) a_nil)) e_int) deeds_map) ?_
  refine j_for (fun i Γ' M' => M' = M.put b (bsM (gtF mk nu.length s i).2) ∧ ∃ o3 o4, Γ' = [some (.obj b), some (tolD mk nu), some (.tup (pDs (gtF mk nu.length s i).1)), o3, o4, none, none]) (k_rev (j := (mk.length : Int)) (ev_is (e_lenL .fz (b_len T) (a_cons (e_ixT (ds := [PR.D.lst (mk.map bxD), .lst (nu.map bxD)]) (d := .lst (mk.map bxD)) rfl (e_v 1 rfl) e_int) a_nil)) (by rw [List.length_map])) ⟨by omega, by omega⟩ (b_range T) (b_reversed T)) (tg_n 3) ⟨(put_id hB).symm, _, _, rfl⟩ ?_ ?_
  · rintro i x Γ' M' hx ⟨rfl, o3', o4', rfl⟩
    obtain ⟨hi, rfl⟩ := rv_at hx
    rw [Int.toNat_natCast] at hi
    have q0 : okB (k + 40 * i) (gtF mk nu.length s i).2 := gt_ok hs hn i
    have hnext : gtF mk nu.length s (i + 1) = ([.rnd (mk.getD (mk.length - 1 - i) ("", 0, 0)).1 (mk.length - 1 - i) (mk.getD (mk.length - 1 - i) ("", 0, 0)).2.1 (mk.getD (mk.length - 1 - i) ("", 0, 0)).2.2 (grL (grA mk.length nu.length (mk.length - 1 - i) (gtF mk nu.length s i).2).1 (grC mk.length nu.length (mk.length - 1 - i) (gtF mk nu.length s i).2).1) (grL (grA mk.length nu.length (mk.length - 1 - i) (gtF mk nu.length s i).2).1 (grC mk.length nu.length (mk.length - 1 - i) (gtF mk nu.length s i).2).1).reverse (grS mk.length nu.length (mk.length - 1 - i) (gtF mk nu.length s i).2).1 (gtF mk nu.length s i).1], (grS mk.length nu.length (mk.length - 1 - i) (gtF mk nu.length s i).2).2) := rfl
    rw [hnext]
    obtain ⟨o, ho⟩ : ∃ o, o = mk.length - 1 - i := ⟨_, rfl⟩
    have ho' : o < mk.length := by omega
    have eo : ((mk.length : Int).toNat : Int) - 1 - (i : Int) = (o : Int) := by omega
    rw [eo, ← ho]
    generalize gtF mk nu.length s i = p at q0 ⊢
    have q1 : okB (k + 40 * i + 11) (grA mk.length nu.length o p.2).2 := sum_ok q0 hn _
    have q2 : okB (k + 40 * i + 22) (grC mk.length nu.length o p.2).2 := (sum_ok q1 hn _).mono (by omega)
    generalize hbx : mk.getD o ("", 0, 0) = bx
    have hbx' : (mk.map bxD)[o]? = some (bxD bx) := by
      rw [List.getElem?_map, List.getElem?_eq_getElem ho', ← hbx, List.getD_eq_getElem?_getD, List.getElem?_eq_getElem ho']
      rfl
    refine ⟨_, rfl, ?_⟩
    refine j_set 4 (d := gsD (grL (grA mk.length nu.length o p.2).1 (grC mk.length nu.length o p.2).1)) (M1 := M.put b (bsM (grC mk.length nu.length o p.2).2)) (ev_is (e_repT (ds := [PR.D.tup (List.replicate 60 (bdD (1, (grA mk.length nu.length o p.2).1))), .tup [], .tup [bdD (3, (grC mk.length nu.length o p.2).1)], .tup []]) (by simp) ⟨by decide, by decide⟩ (Nat.le_of_ble_eq_true rfl) (e_tup (a_cons (ev_is (M1 := M.put b (bsM (grA mk.length nu.length o p.2).2)) (e_repT (ds := [bdD (1, (grA mk.length nu.length o p.2).1)]) (by simp) ⟨by decide, by decide⟩ (Nat.le_of_ble_eq_true rfl) (e_tup (a_cons (e_tup (a_cons e_int (a_cons (e_call (ok__law_sum T) (hr.mono (by decide)) (a_cons (e_v 0 rfl) (a_cons (e_v 1 rfl) (a_cons (e_v 3 rfl) a_nil))) fun Q q => ⟨b, p.2, mk, nu, o, _, rfl, put_same, q0, by omega, hn, by rw [put_put]; exact q⟩) a_nil))) a_nil)) e_int) (by rw [rep1a]; rfl)) (a_cons (e_tup a_nil) (a_cons (e_tup (a_cons (e_tup (a_cons e_int (a_cons (e_call (ok__law_sum T) (hr.mono (by decide)) (a_cons (e_v 0 rfl) (a_cons (e_v 1 rfl) (a_cons (e_v 3 rfl) a_nil))) fun Q q => ⟨b, (grA mk.length nu.length o p.2).2, mk, nu, o, _, rfl, put_same, q1, by omega, hn, by rw [put_put]; exact q⟩) a_nil))) a_nil)) (a_cons (e_tup a_nil) a_nil))))) e_int) (by rw [grL_map]; rfl)) ?_
    refine j_set 2 (d := .tup (pDs [.rnd bx.1 o bx.2.1 bx.2.2 (grL (grA mk.length nu.length o p.2).1 (grC mk.length nu.length o p.2).1) (grL (grA mk.length nu.length o p.2).1 (grC mk.length nu.length o p.2).1).reverse (grS mk.length nu.length o p.2).1 p.1])) (M1 := M.put b (bsM (grS mk.length nu.length o p.2).2)) (e_tup (a_cons (e_tup (a_cons e_str (a_cons (e_ixT (ds := [.str bx.1, .int bx.2.1, .int bx.2.2]) (d := .str bx.1) rfl (e_ixL (ds := mk.map bxD) (d := bxD bx) .fz (atI_nat hbx') (e_ixT (ds := [PR.D.lst (mk.map bxD), .lst (nu.map bxD)]) (d := .lst (mk.map bxD)) rfl (e_v 1 rfl) e_int) (e_v 3 rfl)) e_int) (a_cons (e_v 4 rfl) (a_cons (ev_is (e_revT (ds := (grL (grA mk.length nu.length o p.2).1 (grC mk.length nu.length o p.2).1).map gpD) (e_v 4 rfl)) (grL_rev _ _)) (a_cons (e_call (ok__law_step T) (hr.mono (by decide)) (a_cons (e_v 0 rfl) (a_cons (e_v 1 rfl) (a_cons (e_v 3 rfl) a_nil))) fun Q q => ⟨b, (grC mk.length nu.length o p.2).2, mk, nu, o, _, rfl, put_same, q2, by omega, hn, ho', by rw [put_put]; exact q⟩) (a_cons (e_v 2 rfl) a_nil))))))) a_nil) (show 1 ≤ 100000 by decide)) (j_nil ⟨rfl, _, _, rfl⟩)
  · rintro Γ' M' ⟨rfl, o3', o4', rfl⟩
    rw [rv_len, Int.toNat_natCast]
    have q0 : okB (k + 40 * mk.length) (gtF mk nu.length s mk.length).2 := gt_ok hs hn _
    refine j_set 5 (d := .tup ((List.replicate 60 (gtW mk nu.length s).1).map wsD)) (M1 := M.put b (bsM (gtW mk nu.length s).2)) (ev_is (e_repT (ds := [wsD (gtW mk nu.length s).1]) (by simp) ⟨by decide, by decide⟩ (Nat.le_of_ble_eq_true rfl) (e_tup (a_cons (e_call (ok__law_wish T) (hr.mono (by decide)) (a_cons (e_v 0 rfl) (a_cons (e_v 1 rfl) (a_cons e_int a_nil))) fun Q q => ⟨b, (gtF mk nu.length s mk.length).2, mk, nu, 0, _, rfl, put_same, q0, by omega, hn, by rw [put_put]; exact q⟩) a_nil)) e_int) (by rw [rep1a, List.map_replicate]; rfl)) ?_
    refine j_for (fun i Γ' M' => M' = M.put b (bsM (gtW mk nu.length s).2) ∧ ∃ o6, Γ' = [some (.obj b), some (tolD mk nu), some (.tup (pDs (tsW (List.replicate 60 (gtW mk nu.length s).1) (gtF mk nu.length s mk.length).1 i))), o3', o4', some (.tup ((List.replicate 60 (gtW mk nu.length s).1).map wsD)), o6]) (k_rg1 (j := 9 - (mk.length : Int)) (a_cons (e_sub e_int (ev_is (e_lenL .fz (b_len T) (a_cons (e_ixT (ds := [PR.D.lst (mk.map bxD), .lst (nu.map bxD)]) (d := .lst (mk.map bxD)) rfl (e_v 1 rfl) e_int) a_nil)) (by rw [List.length_map]))) a_nil) ⟨by omega, by omega⟩ (b_range T)) (tg_n 6) ⟨rfl, _, rfl⟩ ?_ ?_
    · rintro i x Γ' M' hx ⟨rfl, o6', rfl⟩
      refine ⟨_, rfl, ?_⟩
      exact j_set 2 (d := .tup (pDs (tsW (List.replicate 60 (gtW mk nu.length s).1) (gtF mk nu.length s mk.length).1 (i + 1)))) (e_tup (a_cons (e_tup (a_cons e_str (a_cons (e_v 5 rfl) (a_cons (e_v 2 rfl) a_nil)))) a_nil) (show 1 ≤ 100000 by decide)) (j_nil ⟨rfl, _, rfl⟩)
    · rintro Γ' M' ⟨rfl, o6', rfl⟩
      have e : (rgD 0 (9 - (mk.length : Int)).toNat).length = 9 - mk.length := by
        rw [rg_len]
        omega
      rw [e]
      exact j_ret (e_v 2 rfl) q

/-! ### what is asked of each program -/
theorem eqv_self {n : Nat} {d : PR.D} (h : okD n d = true) : PyData.eqv (py d) (py d) = true := PySem.SeqAt.eqv_refl _ (okD_py n d h).1
def toD2 (mk nu : List Bx) : PR.D := .tup [.tup (mk.map bxD), .tup (nu.map bxD)]
structure RowOk (mk nu : List Bx) (ps : List Nd) : Prop where
  pg : okPg mk nu ps
  h : ∀ n ∈ ps, hN 12 n
  f : ShD 4 (toD2 mk nu)
  p : ShD 27 (.tup (pDs ps))
  t : ShD 28 (.tup [toD2 mk nu, .tup (pDs ps)])
  s : ShD 0 (.int (szs ps : Int))
def sp__law_right (K : PySem.W.Frag) : SpD := fun ds M Q => ∃ mk nu : List Bx, ∃ ps : List Nd, ∃ d : PR.D, ds = [d, .tup (pDs ps), frD K mk nu, pgD K mk nu ps] ∧ RowOk mk nu ps ∧ Q (.bl true) M
theorem ok__law_right (T : Top K mg) : Gg P w K mg base 14 "_law_right" ["_law_told", "_law_parts", "_law_frame", "_law_program"] (sp__law_right K) := by
  obtain ⟨fd, F⟩ := F__law_right T
  refine gg_mk (gn_ok F sc__law_right (by rintro ds M Q ⟨_, _, _, _, rfl, _⟩; rfl) (by decide) fun cdv A outer s H E hgd hr ds M Q hs => ?_) (g__law_right T) F.kp (F.bindsN fun _ _ _ _ _ _ us hl => match us, hl with | [_, _, _, _], _ => rfl)
  obtain ⟨mk, nu, ps, d, rfl, R, q⟩ := hs
  have hnd := sc__law_right.nd
  have few : ps.length ≤ 100 := by
    have := R.pg.few
    omega
  show Jss _ [some d, some (.tup (pDs ps)), some (frD K mk nu), some (pgD K mk nu ps), none] M (_ :: _) _
  refine j_if (evt_is (t_w (w_or (t_reprNe hr.units hgd (.same (toD2 mk nu)) (.same (toD2 mk nu)) R.f (b_repr T) (e_meth0 (ok_Frame_told T) (hr.mono (by decide)) (e_meth0 (ok_Program_frame T) (hr.mono (by decide)) (e_v 3 rfl) .fz rfl fun Q q => ⟨mk, nu, ps, rfl, q⟩) .fz rfl fun Q q => ⟨mk, nu, rfl, q⟩) (e_meth0 (ok_Frame_told T) (hr.mono (by decide)) (e_v 2 rfl) .fz rfl fun Q q => ⟨mk, nu, rfl, q⟩)) fun _ => w_one (t_reprNe hr.units hgd (.same (.int (szs ps : Int))) (.same (.int (szs ps : Int))) R.s (b_repr T) (e_meth0 (ok_Program_size T) (hr.mono (by decide)) (e_v 3 rfl) .fz rfl fun Q q => ⟨mk, nu, ps, rfl, q⟩) (e_call (ok__law_size T 12) hr (a_cons (e_v 1 rfl) a_nil) fun Q q => ⟨ps, rfl, few, R.h, q⟩)))) (rfl : _ = false)) (fun h => by cases h) (fun _ => j_nil ?_)
  refine j_set 4 (d := .tup [toD2 mk nu, .tup (pDs ps)]) (e_tup (a_cons (e_meth0 (ok_Frame_told T) (hr.mono (by decide)) (e_v 2 rfl) .fz rfl fun Q q => ⟨mk, nu, rfl, q⟩) (a_cons (e_v 1 rfl) a_nil))) ?_
  refine j_ret (d := .bl true) (ev_is (e_and (p := true) (ev_is (e_eqS (e_repr hr.units hgd (.same (.tup (pDs ps))) R.p (b_repr T) (e_meth0 (ok_Program_parts T) (hr.mono (by decide)) (e_v 3 rfl) .fz rfl fun Q q => ⟨mk, nu, ps, rfl, q⟩)) (e_repr hr.units hgd (.same (.tup (pDs ps))) R.p (b_repr T) (e_v 1 rfl))) (by rw [decide_eq_true rfl])) fun _ => e_one (ev_is (e_eqS (e_repr hr.units hgd (.same (.tup [toD2 mk nu, .tup (pDs ps)])) R.t (b_repr T) (e_meth0 (ok_Program_told T) (hr.mono (by decide)) (e_v 3 rfl) .fz rfl fun Q q => ⟨mk, nu, ps, rfl, q⟩)) (e_repr hr.units hgd (.same (.tup [toD2 mk nu, .tup (pDs ps)])) R.t (b_repr T) (e_v 4 rfl))) (by rw [decide_eq_true rfl]))) rfl) q

end H

set_option Elab.async false
set_option linter.all false
set_option maxRecDepth 100000
set_option maxHeartbeats 4000000
namespace H
open PySem PySem.Spec PyProof.Rows L2 PR
variable {P : Program} {w : World} {K : PySem.W.Frag} {mg : Str → Option Value} {base : Heap}

/-! ### the law -/
theorem ok_Frame_one (T : Top K mg) : Cg P w K mg base 5 "Frame" (He.ga K "Frame") ["self", "marks", "numbers"] [.non] (fun ds M Q => ∃ x : Addr, ∃ mk : List Bx, ds = [.obj x, .lst (mk.map bxD), .non] ∧ M x = some (.ins (He.ga K "Frame") []) ∧ okFr mk [] ∧ ∀ M', Ex x M M' → M' x = some (.ins (He.ga K "Frame") [("boxed_marks", .tup (mk.map bxD)), ("boxed_numbers", .tup [])]) → Q .non M') := by
  obtain ⟨fd, F⟩ := F_Frame___init__ T
  have hB : Dfl K fd ["self", "marks", "numbers"] [PR.D.non] := by
    obtain ⟨ds, v1, v2⟩ := F.binds1 (ps := ["self", "marks", "numbers"]) 2 0 (by intro h; cases h) rfl (fun T' kV doc pm an cdv ct us its h1 h2 => match us, h1 with
      | [_, _], _ => match its, h2 with
        | [_], _ => ⟨_, rfl, rfl⟩)
    exact ⟨_, _, v2, v1, fun H => .cons .non .nil⟩
  refine ⟨⟨_, fd, fn_ok (sp := fun ds M Q => ∃ x : Addr, ∃ mk : List Bx, ds = [.obj x, .lst (mk.map bxD), .non] ∧ M x = some (.ins (He.ga K "Frame") []) ∧ okFr mk [] ∧ ∀ M', Ex x M M' → M' x = some (.ins (He.ga K "Frame") [("boxed_marks", .tup (mk.map bxD)), ("boxed_numbers", .tup [])]) → Q .non M') F sc_Frame___init__ (by rintro ds M Q ⟨_, _, rfl, _⟩; rfl) (by decide) fun cdv A outer s H E hr ds M Q hs => ?_, k_Frame T, hB⟩, g_Frame T⟩
  obtain ⟨x, mk, rfl, hx, hf, q⟩ := hs
  have hnd := sc_Frame___init__.nd
  obtain ⟨tk1, hW1⟩ := i_WIDE_MARK T
  have f1 := hf.m1
  have f2 := hf.m2
  have f4 := hf.nd
  show Jss _ [some (.obj x), some (.lst (mk.map bxD)), some .non, none] M (_ :: _) _
  refine j_setN 3 (n_lst a_nil) (fun l hl => ?_)
  have ne : x ≠ l := fun z => by rw [z, hl] at hx; cases hx
  refine j_fld (d := .tup (mk.map bxD)) (e_call (ok_boxed T) hr (a_cons (e_v 1 rfl) (a_cons e_int (a_cons e_int (a_cons (e_gi hW1) (a_cons (e_v 3 rfl) a_nil))))) fun Q q => ⟨_, mk, 1, 3, 11, l, [], rfl, .inl rfl, put_same, by omega, by omega, hf.bm, by rw [List.map_append] at f4; exact (List.nodup_append.mp f4).1, by simp; omega, q⟩) (e_v 0 rfl) (by rw [put_ne ne, put_ne ne]; exact hx) (c_Frame T) (n_Frame_boxed_marks T) (by decide) ?_
  refine j_fld (d := .tup []) (e_tup a_nil) (e_v 0 rfl) put_same (c_Frame T) (n_Frame_boxed_numbers T) (putD_lt (by decide)) ?_
  refine j_if (evt_is (t_notN (e_v 2 rfl) e_non) (rfl : _ = false)) (fun h => by cases h) (fun _ => j_nil (j_nil ?_))
  refine q _ ?_ (by rw [put_same]; rfl)
  exact (((((Ex.refl x M).new hl).new hl).put).put)
def tn1 (s : Bs) : Int × Bs := tk (sfNu s).2 8
def tn2 (s : Bs) : Int × Bs := tk (tn1 s).2 5
def tnD (s : Bs) : Nat := (2 + (tn2 s).1).toNat
def tnN (s : Bs) : List Nd × Bs := nodesF (sfMk s).1 (sfNu s).1.length (tnD s) 0 (tn2 s).2
def tnG (s : Bs) : List Nd × Bs := greatF (sfMk s).1 (sfNu s).1.length (tnN s).2
def tnP (s : Bs) : List Nd × Bs := if (tn1 s).1 = 0 then tnG s else tnN s
theorem tn_d (s : Bs) : 2 ≤ tnD s ∧ tnD s ≤ 6 ∧ ((tnD s : Nat) : Int) = 2 + (tn2 s).1 := by
  have a : 0 ≤ (tn2 s).1 := tk_ge (by decide)
  have b : (tn2 s).1 < 5 := tk_lt (by decide)
  unfold tnD
  omega
theorem ndK_le : ∀ dp, dp ≤ 6 → ndK dp ≤ 85000
  | 0, _ => by decide
  | 1, _ => by decide
  | 2, _ => by decide
  | 3, _ => by decide
  | 4, _ => by decide
  | 5, _ => by decide
  | 6, _ => by decide
  | n + 7, h => by omega
theorem mn_len (s : Bs) : (sfMk s).1.length + (sfNu s).1.length ≤ 5 ∧ (sfMk s).1.length ≤ 3 ∧ 1 ≤ (sfMk s).1.length := by
  have a := sf_m s
  have b := sf_n s
  rw [sfMk_len, sfNu_len]
  omega
theorem turn_ok {k : Nat} {s : Bs} (h : okB k s) : okB (k + 31) (tn1 s).2 ∧ okB (k + 32) (tn2 s).2 ∧ okB (k + 85032) (tnN s).2 ∧ okB (k + 86000) (tnP s).2 := by
  have h1 : okB (k + 31) (tn1 s).2 := tk_ok (sf_ok h) (by decide)
  have h2 : okB (k + 32) (tn2 s).2 := tk_ok h1 (by decide)
  have h3 : okB (k + 85032) (tnN s).2 := (nodes_ok (mn_len s).1 (tnD s) _ 0 _ h2).mono (by have := ndK_le (tnD s) (tn_d s).2.1; omega)
  refine ⟨h1, h2, h3, ?_⟩
  unfold tnP
  split
  · exact (great_ok h3 (mn_len s).1).mono (by omega)
  · exact h3.mono (by omega)
abbrev RowT : Type := List Bx × List Bx × List Nd
def rwF (s0 : Bs) : Nat → List RowT × Bs
  | 0 => ([], s0)
  | i + 1 => ((rwF s0 i).1 ++ [((sfMk (rwF s0 i).2).1, (sfNu (rwF s0 i).2).1, (tnP (rwF s0 i).2).1)], (tnP (rwF s0 i).2).2)
def rowD (K : PySem.W.Frag) (r : RowT) : PR.D := .tup [tolD r.1 r.2.1, .tup (pDs r.2.2), frD K r.1 r.2.1, pgD K r.1 r.2.1 r.2.2]
theorem rw_ok {k : Nat} {s : Bs} (h : okB k s) : ∀ i, okB (k + 86000 * i) (rwF s i).2
  | 0 => h
  | i + 1 => (turn_ok (rw_ok h i)).2.2.2.mono (by omega)
theorem rw_all {s0 : Bs} (hp : ∀ s, RowOk (sfMk s).1 (sfNu s).1 (tnP s).1) : ∀ i, ∀ r ∈ (rwF s0 i).1, RowOk r.1 r.2.1 r.2.2
  | 0, r, h => by cases h
  | i + 1, r, h => by
    rcases List.mem_append.mp h with h | h
    · exact rw_all hp i r h
    · rw [List.mem_singleton.mp h]
      exact hp _
theorem rw_len (s0 : Bs) : ∀ i, (rwF s0 i).1.length = i
  | 0 => rfl
  | i + 1 => by
    show ((rwF s0 i).1 ++ [_]).length = i + 1
    rw [List.length_append, rw_len s0 i]
    rfl
theorem row_at {K : PySem.W.Frag} {L : List RowT} {i : Nat} {x : PR.D} (h : (L.map (rowD K))[i]? = some x) : ∃ r, L[i]? = some r ∧ x = rowD K r := by
  rw [List.getElem?_map] at h
  obtain ⟨n, h1, h2⟩ := Option.map_eq_some_iff.mp h
  exact ⟨n, h1, h2.symm⟩
theorem okFr_a : okFr [("a", 0, 0)] [] := by
  refine ⟨by decide, by decide, by decide, fun b hb => ?_, fun b hb => (by cases hb), ?_⟩
  · rw [List.mem_singleton.mp hb]
    refine ⟨by decide +kernel, by decide +kernel, by decide, by decide, by decide, by decide⟩
  · show ([("a" : Str)]).Nodup
    exact List.nodup_cons.mpr ⟨List.not_mem_nil, List.nodup_nil⟩
theorem okPg_a : okPg [("a", 0, 0)] [] [] := ⟨okFr_a, by decide, fun n hn => (by cases hn), by decide⟩
def sp_law (K : PySem.W.Frag) : SpD := fun ds M Q => ∃ ns : List Int, ds = [.scr ns] ∧ ns.length ≤ 63 ∧ (∀ s, RowOk (sfMk s).1 (sfNu s).1 (tnP s).1) ∧ ∀ M', Q (.bl true) M'

theorem gk_law (T : Top K mg) {fd} (F : FunD K d_law.name d_law.qual (defArgs s_law) (defBody s_law) (defScope s_law) (d_law.dvs K) (d_law.kws K) (He.fAd K d_law.at_) fd) : GnOk P w K mg base 45 (He.fAd K d_law.at_) fd ["_law_script"] (toSp K (sp_law K)) := by
  refine gn_ok F sc_law (by rintro ds M Q ⟨_, rfl, _⟩; rfl) (by decide) fun cdv A outer s H E hgd hr ds M Q hs => ?_
  obtain ⟨ns, rfl, hn, hp, q⟩ := hs
  have hnd := sc_law.nd
  show Jss _ [some (.scr ns), none, none, none, none, none, none, none, none, none] M (_ :: _) _
  refine j_for (fun i Γ' M' => ∃ o1 o2 o3 o4 o5 o6 o7 o8 o9, Γ' = [some (.scr ns), o1, o2, o3, o4, o5, o6, o7, o8, o9]) (k_rg1 (j := max 2 (min 6 (ns.length : Int))) (a_cons (e_max2 (b_max T) (a_cons e_int (a_cons (e_min2 (b_min T) (a_cons e_int (a_cons (e_lenScr (b_len T) (a_cons (e_v 0 rfl) a_nil)) a_nil))) a_nil))) a_nil) ⟨by omega, by omega⟩ (b_range T)) (tg_n 1) ⟨_, _, _, _, _, _, _, _, _, rfl⟩ ?_ ?_
  · rintro i0 x Γ' M' hx ⟨o1, o2, o3, o4, o5, o6, o7, o8, o9, rfl⟩
    obtain ⟨hi, rfl⟩ := rg_at hx
    refine ⟨_, rfl, ?_⟩
    generalize hc : cellF ns i0 = c
    refine j_setP 2 (e_callP (P := fun d M1 => ∃ b, d = .obj b ∧ M' b = none ∧ M1 = M'.put b (bsM (boxF c))) (ok__law_box T) (hr.mono (by decide)) (a_cons (e_call (d := .int c) (ok__law_cell T) (hr.mono (by decide)) (a_cons (e_v 0 rfl) (a_cons (e_v 1 rfl) a_nil)) fun Q q => ⟨ns, i0, by simp, by omega, by rw [hc]; exact q⟩) a_nil) ⟨c, rfl, fun b hb => ⟨b, rfl, hb, rfl⟩⟩ mono__law_box) ?_
    rintro d M1 ⟨b, rfl, hbn, rfl⟩
    have oS0 : okB 0 (boxF c) := boxF_ok c
    generalize boxF c = s0 at oS0 ⊢
    refine j_setN 3 (n_lst a_nil) (fun f hf => ?_)
    have ne : b ≠ f := fun z => by
      rw [← z, put_same] at hf
      cases hf
    have hfn : ∀ t : Bs, (M'.put b (bsM t)) f = none := fun t => by
      rw [put_ne ne.symm]
      rw [put_ne ne.symm] at hf
      exact hf
    have hsw : ∀ (u v : MO) (y : MO), ((M'.put b u).put f y).put b v = (M'.put b v).put f y := fun u v y => by rw [← put_comm ne, put_put, put_comm ne]
    refine j_for (fun i Γ' M'' => M'' = (M'.put b (bsM (rwF s0 i).2)).put f (.lst ((rwF s0 i).1.map (rowD K))) ∧ ∃ o4 o5 o6 o7 o8 o9, Γ' = [some (.scr ns), some (.int (0 + (i0 : Int))), some (.obj b), some (.obj f), o4, o5, o6, o7, o8, o9]) (k_rg1 (j := 2) (a_cons e_int a_nil) ⟨by decide, by decide⟩ (b_range T)) (tg_n 4) ⟨rfl, _, _, _, _, _, _, rfl⟩ ?_ ?_
    · rintro i x Γ' M'' hx ⟨rfl, o4', o5', o6', o7', o8', o9', rfl⟩
      obtain ⟨hi2, rfl⟩ := rg_at hx
      have hi2 : i < 2 := hi2
      have hL := rw_len s0 i
      have q0 : okB (0 + 86000 * i) (rwF s0 i).2 := rw_ok oS0 i
      have hnext : rwF s0 (i + 1) = ((rwF s0 i).1 ++ [((sfMk (rwF s0 i).2).1, (sfNu (rwF s0 i).2).1, (tnP (rwF s0 i).2).1)], (tnP (rwF s0 i).2).2) := rfl
      rw [hnext]
      generalize (rwF s0 i).1 = L at hL ⊢
      generalize (rwF s0 i).2 = s at q0 ⊢
      obtain ⟨q1, q2, q3, q4⟩ := turn_ok q0
      have qf : okB (0 + 86000 * i + 30) (sfNu s).2 := sf_ok q0
      obtain ⟨m1, m2, m3⟩ := mn_len s
      obtain ⟨d1, d2, d3⟩ := tn_d s
      have hK := ndK_le (tnD s) d2
      refine ⟨_, rfl, ?_⟩
      refine j_set 5 (d := tolD (sfMk s).1 (sfNu s).1) (M1 := (M'.put b (bsM (sfNu s).2)).put f (.lst (L.map (rowD K)))) (e_call (ok__law_small_frame T) (hr.mono (by decide)) (a_cons (e_v 2 rfl) a_nil) fun Q q => ⟨b, s, _, rfl, by rw [put_ne ne]; exact put_same, q0, by omega, by rw [hsw]; exact q⟩) ?_
      refine j_set 6 (d := .bl (decide ((tn1 s).1 = 0))) (M1 := (M'.put b (bsM (tn1 s).2)).put f (.lst (L.map (rowD K)))) (e_eqI (e_call (ok__law_take T) (hr.mono (by decide)) (a_cons (e_v 2 rfl) (a_cons e_int a_nil)) fun Q q => ⟨b, (sfNu s).2, 8, _, rfl, by rw [put_ne ne]; exact put_same, qf, by omega, by omega, by omega, by rw [hsw]; exact q⟩) e_int) ?_
      refine j_set 7 (d := .tup (pDs (tnN s).1)) (M1 := (M'.put b (bsM (tnN s).2)).put f (.lst (L.map (rowD K)))) (e_call (ok__law_nodes T (tnD s)) (hr.mono (by omega)) (a_cons (e_v 2 rfl) (a_cons (e_v 5 rfl) (a_cons e_int (a_cons (ev_is (d' := .int ((tnD s : Nat) : Int)) (e_add e_int (e_call (ok__law_take T) (hr.mono (by decide)) (a_cons (e_v 2 rfl) (a_cons e_int a_nil)) fun Q q => ⟨b, (tn1 s).2, 5, _, rfl, by rw [put_ne ne]; exact put_same, q1, by omega, by omega, by omega, by rw [hsw]; exact q⟩)) (by rw [d3]; rfl)) a_nil)))) fun Q q => ⟨b, (tn2 s).2, (sfMk s).1, (sfNu s).1, 0, _, rfl, by rw [put_ne ne]; exact put_same, q2, by omega, m1, Nat.zero_le _, by omega, d2, by rw [hsw]; exact q⟩) ?_
      refine j_if (q := decide ((tn1 s).1 = 0)) (t_val (e_v 6 rfl)) (fun h => ?_) (fun h => j_nil ?_)
      · have he := of_decide_eq_true h
        have e : tnP s = tnG s := if_pos he
        refine j_set 7 (d := .tup (pDs (tnP s).1)) (M1 := (M'.put b (bsM (tnP s).2)).put f (.lst (L.map (rowD K)))) (e_call (ok__law_great T) (hr.mono (by decide)) (a_cons (e_v 2 rfl) (a_cons (e_v 5 rfl) a_nil)) fun Q q => ⟨b, (tnN s).2, (sfMk s).1, (sfNu s).1, _, rfl, by rw [put_ne ne]; exact put_same, q3, by omega, m1, m2, by rw [e] at q; rw [hsw]; exact q⟩) (j_nil ?_)
        refine j_set 8 (d := frD K (sfMk s).1 (sfNu s).1) (M1 := (M'.put b (bsM (tnP s).2)).put f (.lst (L.map (rowD K)))) (e_make (fs := [("boxed_marks", .tup ((sfMk s).1.map bxD)), ("boxed_numbers", .tup ((sfNu s).1.map bxD))]) (ok_Frame___init__ T) (hr.mono (by decide)) (a_cons (e_ixT (ds := [PR.D.lst ((sfMk s).1.map bxD), .lst ((sfNu s).1.map bxD)]) (d := .lst ((sfMk s).1.map bxD)) rfl (e_v 5 rfl) e_int) (a_cons (e_ixT (ds := [PR.D.lst ((sfMk s).1.map bxD), .lst ((sfNu s).1.map bxD)]) (d := .lst ((sfNu s).1.map bxD)) rfl (e_v 5 rfl) e_int) a_nil)) (fun x hx Q q => ⟨x, (sfMk s).1, (sfNu s).1, _, _, rfl, .inl rfl, .inl rfl, put_same, (hp s).pg.fr, fun M' e1 e2 => q M' (e1.le hx) e2⟩) mono_Frame___init__) ?_
        refine j_app (d := rowD K ((sfMk s).1, (sfNu s).1, (tnP s).1)) (ds := L.map (rowD K)) (M2 := (M'.put b (bsM (tnP s).2)).put f (.lst (L.map (rowD K)))) (e_v 3 rfl) (e_tup (a_cons (e_v 5 rfl) (a_cons (e_v 7 rfl) (a_cons (e_v 8 rfl) (a_cons (e_make (fs := pgF K (sfMk s).1 (sfNu s).1 (tnP s).1) (ok_Program___init__ T) (hr.mono (by decide)) (a_cons (e_v 8 rfl) (a_cons (e_v 7 rfl) a_nil)) (fun x hx Q q => ⟨x, (sfMk s).1, (sfNu s).1, (tnP s).1, rfl, put_same, (hp s).pg, fun M' e1 e2 => q M' (e1.le hx) e2⟩) mono_Program___init__) a_nil))))) put_same (by rw [List.length_map]; omega) (j_nil ⟨?_, _, _, _, _, _, _, rfl⟩) put_same
        rw [put_put, List.map_append]
        rfl
      · have he := of_decide_eq_false h
        have e : tnP s = tnN s := if_neg he
        rw [← e]
        refine j_set 8 (d := frD K (sfMk s).1 (sfNu s).1) (M1 := (M'.put b (bsM (tnP s).2)).put f (.lst (L.map (rowD K)))) (e_make (fs := [("boxed_marks", .tup ((sfMk s).1.map bxD)), ("boxed_numbers", .tup ((sfNu s).1.map bxD))]) (ok_Frame___init__ T) (hr.mono (by decide)) (a_cons (e_ixT (ds := [PR.D.lst ((sfMk s).1.map bxD), .lst ((sfNu s).1.map bxD)]) (d := .lst ((sfMk s).1.map bxD)) rfl (e_v 5 rfl) e_int) (a_cons (e_ixT (ds := [PR.D.lst ((sfMk s).1.map bxD), .lst ((sfNu s).1.map bxD)]) (d := .lst ((sfNu s).1.map bxD)) rfl (e_v 5 rfl) e_int) a_nil)) (fun x hx Q q => ⟨x, (sfMk s).1, (sfNu s).1, _, _, rfl, .inl rfl, .inl rfl, put_same, (hp s).pg.fr, fun M' e1 e2 => q M' (e1.le hx) e2⟩) mono_Frame___init__) ?_
        refine j_app (d := rowD K ((sfMk s).1, (sfNu s).1, (tnP s).1)) (ds := L.map (rowD K)) (M2 := (M'.put b (bsM (tnP s).2)).put f (.lst (L.map (rowD K)))) (e_v 3 rfl) (e_tup (a_cons (e_v 5 rfl) (a_cons (e_v 7 rfl) (a_cons (e_v 8 rfl) (a_cons (e_make (fs := pgF K (sfMk s).1 (sfNu s).1 (tnP s).1) (ok_Program___init__ T) (hr.mono (by decide)) (a_cons (e_v 8 rfl) (a_cons (e_v 7 rfl) a_nil)) (fun x hx Q q => ⟨x, (sfMk s).1, (sfNu s).1, (tnP s).1, rfl, put_same, (hp s).pg, fun M' e1 e2 => q M' (e1.le hx) e2⟩) mono_Program___init__) a_nil))))) put_same (by rw [List.length_map]; omega) (j_nil ⟨?_, _, _, _, _, _, _, rfl⟩) put_same
        rw [put_put, List.map_append]
        rfl
    · rintro Γ' M'' ⟨rfl, o4', o5', o6', o7', o8', o9', rfl⟩
      rw [show (rgD 0 (2 : Int).toNat).length = 2 from rfl]
      have hall : ∀ r ∈ (rwF s0 2).1, RowOk r.1 r.2.1 r.2.2 := rw_all hp 2
      generalize (rwF s0 2).1 = L at hall ⊢
      generalize (rwF s0 2).2 = s
      refine j_fz 3 rfl put_same (le_new (hfn s)) (hfn s) ?_
      show Jss _ [some (.scr ns), some (.int (0 + (i0 : Int))), some (.obj b), some (.lst (L.map (rowD K))), o4', o5', o6', o7', o8', o9'] _ (_ :: _) _
      refine j_for (fun i Γ' M'' => M'' = M'.put b (bsM s) ∧ ∃ o4 o5 o6 o7 o8 o9, Γ' = [some (.scr ns), some (.int (0 + (i0 : Int))), some (.obj b), some (.lst (L.map (rowD K))), o4, o5, o6, o7, o8, o9]) (k_rg1 (j := 2) (a_cons e_int a_nil) ⟨by decide, by decide⟩ (b_range T)) (tg_n 4) ⟨rfl, _, _, _, _, _, _, rfl⟩ ?_ ?_
      · rintro i x Γ' M'' hx ⟨rfl, o4', o5', o6', o7', o8', o9', rfl⟩
        refine ⟨_, rfl, ?_⟩
        refine j_for (fun j Γ' M'' => M'' = M'.put b (bsM s) ∧ ∃ o5 o6 o7 o8 o9, Γ' = [some (.scr ns), some (.int (0 + (i0 : Int))), some (.obj b), some (.lst (L.map (rowD K))), some x, o5, o6, o7, o8, o9]) (ds := L.map (rowD K)) (k_lst (e_v 3 rfl)) (tg_tup (nn := 4) (tgs_cons (tg_n 5) (tgs_cons (tg_n 7) (tgs_cons (tg_n 8) (tgs_cons (tg_n 9) tgs_nil))))) ⟨rfl, _, _, _, _, _, rfl⟩ ?_ ?_
        · rintro j y Γ' M'' hy ⟨rfl, o5', o6', o7', o8', o9', rfl⟩
          obtain ⟨r, hr1, rfl⟩ := row_at hy
          have R := hall r (List.mem_of_getElem? hr1)
          refine ⟨_, rfl, ?_⟩
          exact j_if (q := false) (t_not (t_val (e_gcall (d := .bl true) (ok__law_right T) hgd (hr.mono (by decide)) (a_cons (e_v 5 rfl) (a_cons (e_v 7 rfl) (a_cons (e_v 8 rfl) (a_cons (e_v 9 rfl) a_nil)))) fun Q q => ⟨r.1, r.2.1, r.2.2, _, rfl, R, q⟩))) (fun h => by cases h) (fun _ => j_nil (j_nil ⟨rfl, _, _, _, _, _, rfl⟩))
        · rintro Γ' M'' ⟨rfl, o5', o6', o7', o8', o9', rfl⟩
          exact j_nil ⟨rfl, _, _, _, _, _, _, rfl⟩
      · rintro Γ' M'' ⟨rfl, o4', o5', o6', o7', o8', o9', rfl⟩
        refine j_for (fun j Γ' M'' => M'' = M'.put b (bsM s) ∧ ∃ o5 o6 o7 o8 o9, Γ' = [some (.scr ns), some (.int (0 + (i0 : Int))), some (.obj b), some (.lst (L.map (rowD K))), o4', o5, o6, o7, o8, o9]) (ds := L.map (rowD K)) (k_lst (e_v 3 rfl)) (tg_tup (nn := 4) (tgs_cons (tg_n 5) (tgs_cons (tg_n 7) (tgs_cons (tg_n 8) (tgs_cons (tg_n 9) tgs_nil))))) ⟨rfl, _, _, _, _, _, rfl⟩ ?_ ?_
        · rintro j y Γ' M'' hy ⟨rfl, o5', o6', o7', o8', o9', rfl⟩
          obtain ⟨r, hr1, rfl⟩ := row_at hy
          have R := hall r (List.mem_of_getElem? hr1)
          refine ⟨_, rfl, ?_⟩
          refine j_if (q := false) (evt_is (t_neD (d := .tup [toD2 r.1 r.2.1, .tup (pDs r.2.2)]) (d2 := .tup [toD2 r.1 r.2.1, .tup (pDs r.2.2)]) hr.units (.same _) (.same _) R.t.ok R.t.ok (e_meth0 (ok_Program_told T) (hr.mono (by decide)) (e_make (fs := pgF K r.1 r.2.1 r.2.2) (ok_Program___init__ T) (hr.mono (by decide)) (a_cons (e_meth0 (ok_Program_frame T) (hr.mono (by decide)) (e_v 9 rfl) .fz rfl fun Q q => ⟨r.1, r.2.1, r.2.2, rfl, q⟩) (a_cons (e_meth0 (ok_Program_parts T) (hr.mono (by decide)) (e_v 9 rfl) .fz rfl fun Q q => ⟨r.1, r.2.1, r.2.2, rfl, q⟩) a_nil)) (fun x hx Q q => ⟨x, r.1, r.2.1, r.2.2, rfl, put_same, R.pg, fun M' e1 e2 => q M' (e1.le hx) e2⟩) mono_Program___init__) .fz rfl fun Q q => ⟨r.1, r.2.1, r.2.2, rfl, q⟩) (e_meth0 (ok_Program_told T) (hr.mono (by decide)) (e_v 9 rfl) .fz rfl fun Q q => ⟨r.1, r.2.1, r.2.2, rfl, q⟩)) ?_) (fun h => by cases h) (fun _ => j_nil (j_nil ⟨rfl, _, _, _, _, _, rfl⟩))
          rw [eqv_self R.t.ok]
          rfl
        · rintro Γ' M'' ⟨rfl, o5', o6', o7', o8', o9', rfl⟩
          exact j_nil ⟨_, _, _, _, _, _, _, _, _, rfl⟩
  · rintro Γ' M' ⟨o1, o2, o3, o4, o5, o6, o7, o8, o9, rfl⟩
    exact j_ret (d := .bl true) (ev_is (e_eqI (i := 0) (j := 0) (e_meth0 (ok_Program_size T) (hr.mono (by decide)) (e_make (fs := pgF K [("a", 0, 0)] [] []) (ok_Program___init__ T) (hr.mono (by decide)) (a_cons (e_make (fs := [("boxed_marks", .tup ([(("a", 0, 0) : Bx)].map bxD)), ("boxed_numbers", .tup [])]) (ok_Frame_one T) (hr.mono (by decide)) (a_cons (e_fz (n_lst (a_cons (e_tup (a_cons e_str (a_cons e_int (a_cons e_int a_nil)))) a_nil))) a_nil) (fun x hx Q q => ⟨x, [("a", 0, 0)], rfl, put_same, okFr_a, fun M' e1 e2 => q M' (e1.le hx) e2⟩) (by rintro ds M Q Q' hQQ ⟨x, mk, e, h1, h2, h3⟩; exact ⟨x, mk, e, h1, h2, fun M' a b => hQQ _ _ (h3 M' a b)⟩)) (a_cons (e_tup a_nil) a_nil)) (fun x hx Q q => ⟨x, [("a", 0, 0)], [], [], rfl, put_same, okPg_a, fun M' e1 e2 => q M' (e1.le hx) e2⟩) mono_Program___init__) .fz rfl fun Q q => ⟨[("a", 0, 0)], [], [], rfl, q⟩) e_int) rfl) (q M')

end H

set_option Elab.async false
set_option linter.all false
set_option maxRecDepth 100000
set_option maxHeartbeats 4000000
namespace H
open PySem PySem.Spec PyProof.Rows L2 PR
theorem ownW_is : ownW = own12 := by decide +kernel
def nmOk (n : Str) : Bool := isNmS n && decide (n.length ≤ 6)
theorem nameA_ok : ∀ j : Fin 13, ∀ m : Fin 6, ((((someL ++ someL).drop (j : Nat)).take (m : Nat)).all nmOk && decide (((someL ++ someL).drop (j : Nat)).take (m : Nat)).Nodup) = true := by decide +kernel
theorem nameB_ok : ∀ j : Fin 26, ∀ m : Fin 6, ((nameB ((j : Nat) : Int) (m : Nat)).all nmOk && decide (nameB ((j : Nat) : Int) (m : Nat)).Nodup) = true := by decide +kernel
def isL (c : Nat) : Prop := 97 ≤ c ∧ c ≤ 122
theorem ltr_L {i : Int} (h1 : 0 ≤ i) (h2 : i < 26) : isL (ltr i) := by
  unfold isL ltr
  omega
theorem alp_mem {c : Nat} (h : isL c) : c ∈ ("abcdefghijklmnopqrstuvwxyz" : Str).cps.toList := by
  have key : ∀ k : Fin 26, (97 + (k : Nat)) ∈ ("abcdefghijklmnopqrstuvwxyz" : Str).cps.toList := by decide +kernel
  have := key ⟨c - 97, by unfold isL at h; omega⟩
  have e : 97 + (c - 97) = c := by unfold isL at h; omega
  simpa [e] using this
theorem nm_of {l : List Nat} (h1 : 1 ≤ l.length) (h2 : l.length ≤ 6) (hL : ∀ c ∈ l, isL c) (hn : SS l ∉ own12) : nmOk (SS l) = true := by
  unfold nmOk isNmS
  have e : (SS l).length = l.length := len_SS l
  rw [e, ownW_is, decide_eq_false hn, decide_eq_true h2, decide_eq_true (by omega), decide_eq_true (by omega)]
  have e2 : allIn (SS l) "abcdefghijklmnopqrstuvwxyz" = true := List.all_eq_true.mpr fun c hc => decide_eq_true (alp_mem (hL c (by simpa using hc)))
  rw [e2]
  rfl
theorem own_fix : ∀ w ∈ own12, (w.cps.toList.length ≤ 6 → nmOk (SS ((w.cps.toList ++ [113]).drop (w.cps.toList.length + 1 - 6))) = true) := by decide +kernel
theorem fix_ok {l : List Nat} (h1 : 1 ≤ l.length) (h2 : l.length ≤ 6) (hL : ∀ c ∈ l, isL c) : nmOk (fixN l) = true := by
  unfold fixN
  split
  · rename_i h
    have := own_fix (SS l) h
    simp only [List.toList_toArray] at this
    exact this h2
  · rename_i h
    exact nm_of h1 h2 hL h
theorem own_six : ∀ w ∈ own12, (w.cps.toList.length = 6 → w.cps.toList = [110, 117, 109, 98, 101, 114]) := by decide +kernel
theorem put_cancel {A B : List Nat} {c d : Nat} (h : A ++ [c] ++ B = A ++ [d] ++ B) : c = d := by
  have h1 := List.append_cancel_right h
  have h2 := List.append_cancel_left h1
  simpa using h2
theorem put_at {A B : List Nat} {c d : Nat} {i : Nat} (h : i ≠ A.length) : (A ++ [c] ++ B)[i]? = (A ++ [d] ++ B)[i]? := by
  rw [List.append_assoc, List.append_assoc]
  by_cases h1 : i < A.length
  · rw [List.getElem?_append_left h1, List.getElem?_append_left h1]
  · have e : ∀ x : Nat, (A ++ ([x] ++ B))[i]? = ([x] ++ B)[i - A.length]? := fun x => List.getElem?_append_right (by omega)
    obtain ⟨k, hk⟩ : ∃ k, i - A.length = k + 1 := ⟨i - A.length - 1, by omega⟩
    rw [e, e, hk]
    rfl
theorem own_len {A B : List Nat} {c d : Nat} (hl : (A ++ [c] ++ B).length ≤ 6) (h1 : SS (A ++ [c] ++ B) ∈ own12) (h2 : SS (A ++ [d] ++ B) ∉ own12) : fixN (A ++ [c] ++ B) ≠ fixN (A ++ [d] ++ B) := by
  intro e
  have hlen : (A ++ [d] ++ B).length = (A ++ [c] ++ B).length := by simp
  unfold fixN at e
  rw [if_pos h1, if_neg h2] at e
  have e := congrArg (fun x : Str => x.cps.toList) e
  simp only [List.toList_toArray] at e
  by_cases h6 : (A ++ [c] ++ B).length = 6
  · have hw := own_six _ h1 (by simpa using h6)
    simp only [List.toList_toArray] at hw
    rw [hw] at e
    have e : A ++ [d] ++ B = [117, 109, 98, 101, 114, 113] := e.symm
    by_cases hA : A.length = 0
    · have := put_at (A := A) (B := B) (c := c) (d := d) (i := 1) (by omega)
      rw [hw, e] at this
      simp at this
    · have := put_at (A := A) (B := B) (c := c) (d := d) (i := 0) (by omega)
      rw [hw, e] at this
      simp at this
  · have : (A ++ [c] ++ B).length + 1 - 6 = 0 := by omega
    rw [this, List.drop_zero] at e
    have := congrArg List.length e
    rw [hlen, List.length_append] at this
    simp at this
theorem fix_inj {A B : List Nat} {c d : Nat} (hl : (A ++ [c] ++ B).length ≤ 6) (hcd : c ≠ d) : fixN (A ++ [c] ++ B) ≠ fixN (A ++ [d] ++ B) := by
  have hlen : (A ++ [d] ++ B).length = (A ++ [c] ++ B).length := by simp
  by_cases h1 : SS (A ++ [c] ++ B) ∈ own12
  · by_cases h2 : SS (A ++ [d] ++ B) ∈ own12
    · intro e
      unfold fixN at e
      rw [if_pos h1, if_pos h2] at e
      have e := congrArg (fun x : Str => x.cps.toList) e
      simp only [List.toList_toArray] at e
      by_cases h6 : (A ++ [c] ++ B).length = 6
      · have w1 := own_six _ h1 (by simpa using h6)
        have w2 := own_six _ h2 (by simpa using hlen.trans h6)
        simp only [List.toList_toArray] at w1 w2
        exact hcd (put_cancel (w1.trans w2.symm))
      · have z1 : (A ++ [c] ++ B).length + 1 - 6 = 0 := by omega
        have z2 : (A ++ [d] ++ B).length + 1 - 6 = 0 := by omega
        rw [z1, z2, List.drop_zero, List.drop_zero] at e
        exact hcd (put_cancel (List.append_cancel_right e))
    · exact own_len hl h1 h2
  · by_cases h2 : SS (A ++ [d] ++ B) ∈ own12
    · exact fun e => own_len (by omega) h2 h1 e.symm
    · intro e
      unfold fixN at e
      rw [if_neg h1, if_neg h2] at e
      have e := congrArg (fun x : Str => x.cps.toList) e
      simp only [List.toList_toArray] at e
      exact hcd (put_cancel e)
/-! ### names -/
theorem stem_len2 (s : Bs) : ∀ n, (stemF s n).1.length = n
  | 0 => rfl
  | n + 1 => by
    show ((stemF s n).1 ++ [_]).length = n + 1
    rw [List.length_append, stem_len2 s n]
    rfl
theorem stem_L (s : Bs) : ∀ n, ∀ c ∈ (stemF s n).1, isL c
  | 0, c, h => by cases h
  | n + 1, c, h => by
    rcases List.mem_append.mp h with h | h
    · exact stem_L s n c h
    · rw [List.mem_singleton.mp h]
      exact ltr_L (tk_ge (by decide)) (tk_lt (by decide))
theorem sgn_L {f sd : Int} {k : Nat} : isL (sgnF f sd k) := ltr_L (Int.emod_nonneg _ (by decide)) (Int.emod_lt_of_pos _ (by decide))
theorem sgn_ne {f sd : Int} (hsd : sd ∈ [1, 3, 5, 7, 9, 11]) {i j : Nat} (hi : i < 5) (hj : j < 5) (h : i ≠ j) : sgnF f sd i ≠ sgnF f sd j := by
  unfold sgnF ltr
  have hi : i = 0 ∨ i = 1 ∨ i = 2 ∨ i = 3 ∨ i = 4 := by omega
  have hj : j = 0 ∨ j = 1 ∨ j = 2 ∨ j = 3 ∨ j = 4 := by omega
  simp only [List.mem_cons, List.not_mem_nil, or_false] at hsd
  rcases hsd with e | e | e | e | e | e <;> subst e <;> rcases hi with e | e | e | e | e <;> subst e <;> rcases hj with e | e | e | e | e <;> subst e <;> first | exact absurd rfl h | omega
theorem nodup_rng {g : Nat → Str} {n : Nat} (h : ∀ i j, i < n → j < n → i ≠ j → g i ≠ g j) : ((List.range n).map g).Nodup := by
  unfold List.Nodup
  rw [List.pairwise_map]
  exact (List.Pairwise.imp_of_mem (R := fun i j : Nat => i ≠ j) (fun {a b} ha hb hab => h a b (List.mem_range.mp ha) (List.mem_range.mp hb) hab) List.nodup_range)
theorem nameC_ok {st : List Nat} {a f sd : Int} {many : Nat} (hm : many ≤ 5) (hl : st.length ≤ 5) (hL : ∀ c ∈ st, isL c) (hsd : sd ∈ [1, 3, 5, 7, 9, 11]) : (∀ n ∈ nameC st a f sd many, nmOk n = true) ∧ (nameC st a f sd many).Nodup := by
  have hlen : ∀ c : Nat, (st.take a.toNat ++ [c] ++ st.drop a.toNat).length = st.length + 1 := fun c => by
    simp only [List.length_append, List.length_take, List.length_drop, List.length_singleton]
    omega
  constructor
  · intro n hn
    obtain ⟨k, hk, rfl⟩ := List.mem_map.mp hn
    refine fix_ok (by rw [hlen]; omega) (by rw [hlen]; omega) fun c hc => ?_
    rcases List.mem_append.mp hc with hc | hc
    · rcases List.mem_append.mp hc with hc | hc
      · exact hL c (List.mem_of_mem_take hc)
      · rw [List.mem_singleton.mp hc]
        exact sgn_L
    · exact hL c (List.mem_of_mem_drop hc)
  · exact nodup_rng fun i j hi hj hij => fix_inj (by rw [hlen]; omega) (sgn_ne hsd (by omega) (by omega) hij)
theorem someL_len : (someL ++ someL).length = 26 := by decide
theorem names_all (s : Bs) {many : Nat} (hm : many ≤ 5) : (∀ n ∈ (namesF s many).1, nmOk n = true) ∧ (namesF s many).1.Nodup ∧ (namesF s many).1.length = many := by
  have f0 : 0 ≤ (nmF s).1 := tk_ge (by decide)
  have f1 : (nmF s).1 < 26 := tk_lt (by decide)
  unfold namesF
  split
  · have hj : ((nmF s).1 % 13).toNat < 13 := by omega
    have key := nameA_ok ⟨_, hj⟩ ⟨many, by omega⟩
    rw [Bool.and_eq_true] at key
    refine ⟨List.all_eq_true.mp key.1, of_decide_eq_true key.2, ?_⟩
    show (nameA _ _).length = many
    unfold nameA
    rw [List.length_take, List.length_drop, someL_len]
    omega
  · split
    · have key := nameB_ok ⟨(nmF s).1.toNat, by omega⟩ ⟨many, by omega⟩
      have e : (((nmF s).1.toNat : Nat) : Int) = (nmF s).1 := Int.toNat_of_nonneg f0
      rw [Bool.and_eq_true] at key
      simp only [e] at key
      refine ⟨List.all_eq_true.mp key.1, of_decide_eq_true key.2, ?_⟩
      show (nameB _ _).length = many
      unfold nameB
      rw [List.length_map, List.length_range]
    · have l0 : 0 ≤ (nmL s).1 := tk_ge (by decide)
      have l1 : (nmL s).1 < 6 := tk_lt (by decide)
      have sl : (nmS s).1.length = (nmL s).1.toNat := stem_len2 _ _
      have hsd : pk [1, 3, 5, 7, 9, 11] (nmD2 s).1 ∈ [1, 3, 5, 7, 9, 11] := pk_in (tk_ge (by decide)) (tk_lt (by decide))
      obtain ⟨h1, h2⟩ := nameC_ok (a := (nmA s).1) (f := (nmF s).1) hm (by rw [sl]; omega : (nmS s).1.length ≤ 5) (stem_L _ _) hsd
      refine ⟨h1, h2, ?_⟩
      show (nameC _ _ _ _ _).length = many
      unfold nameC
      rw [List.length_map, List.length_range]

/-! ### the frame -/
theorem nm_parts {n : Str} (h : nmOk n = true) : isNmS n = true ∧ n.length ≤ 6 := by
  unfold nmOk at h
  rw [Bool.and_eq_true] at h
  exact ⟨h.1, of_decide_eq_true h.2⟩
end H

set_option Elab.async false
set_option linter.all false
set_option maxRecDepth 100000
set_option maxHeartbeats 4000000
namespace H
open PySem PySem.Spec PyProof.Rows L2 PR

/-! ### frames -/
theorem sb_names (wd : Int) (ns : List Str) (s : Bs) : ∀ j, j ≤ ns.length → (sbF wd ns s j).1.map (fun b : Bx => b.1) = ns.take j
  | 0, _ => by simp [sbF]
  | j + 1, h => by
    show ((sbF wd ns s j).1 ++ [_]).map (fun b : Bx => b.1) = _
    rw [List.map_append, sb_names wd ns s j (by omega), List.take_succ, List.getElem?_eq_getElem (by omega)]
    simp [List.getD_eq_getElem?_getD, List.getElem?_eq_getElem (show j < ns.length by omega)]
theorem sb_box {wd : Int} (h : 0 ≤ wd) (s : Bs) : -4 ≤ sbS wd s ∧ sbS wd s ≤ 4 ∧ 0 ≤ (sbW wd s).1 ∧ (sbW wd s).1 ≤ wd := by
  have w0 : 0 ≤ (sbW wd s).1 := tk_ge (by omega)
  have w1 : (sbW wd s).1 < wd + 1 := tk_lt (by omega)
  have a0 : 0 ≤ (sbA wd s).1 := tk_ge (by decide)
  have a1 : (sbA wd s).1 < 9 := tk_lt (by decide)
  have h : sbS wd s ∈ [0, 1, (sbA wd s).1 - 4] := pk_in (tk_ge (by decide)) (tk_lt (by decide))
  simp only [List.mem_cons, List.not_mem_nil, or_false] at h
  omega
def bxIn (wd : Int) (b : Bx) : Prop := -4 ≤ b.2.1 ∧ b.2.1 ≤ b.2.2 ∧ b.2.2 ≤ 15 ∧ b.2.2 ≤ b.2.1 + wd
theorem sb_all {wd : Int} (h : 0 ≤ wd) (h2 : wd ≤ 11) (ns : List Str) (s : Bs) : ∀ j, ∀ b ∈ (sbF wd ns s j).1, bxIn wd b
  | 0, b, h => by cases h
  | j + 1, b, hb => by
    rcases List.mem_append.mp hb with hb | hb
    · exact sb_all h h2 ns s j b hb
    · rw [List.mem_singleton.mp hb]
      have := sb_box h (sbF wd ns s j).2
      unfold bxIn
      dsimp only
      omega
theorem frame_ok (s : Bs) : okFr (sfMk s).1 (sfNu s).1 := by
  obtain ⟨m1, m2, m3⟩ := sf_m s
  obtain ⟨n1, n2⟩ := sf_n s
  obtain ⟨w1, w2⟩ := sf_wd s
  obtain ⟨h1, h2, h3⟩ := names_all (sfN s).2 (many := sfm s + sfn s) (by omega)
  have hl : (sfNm s).1.length = sfm s + sfn s := h3
  have e1 : (sfMk s).1.map (fun b : Bx => b.1) = (sfNm s).1.take (sfm s) := by
    have := sb_names (sfWd s) ((sfNm s).1.take (sfm s)) (sfW s).2 (sfm s) (by rw [List.length_take]; omega)
    rw [List.take_take, Nat.min_self] at this
    exact this
  have e2 : (sfNu s).1.map (fun b : Bx => b.1) = (sfNm s).1.drop (sfm s) := by
    have := sb_names 5 ((sfNm s).1.drop (sfm s)) (sfMk s).2 (sfn s) (by rw [List.length_drop]; omega)
    rw [List.take_of_length_le (by rw [List.length_drop]; omega)] at this
    exact this
  have hall : ((sfMk s).1 ++ (sfNu s).1).map (fun b : Bx => b.1) = (sfNm s).1 := by
    rw [List.map_append, e1, e2, List.take_append_drop]
  have hn : ∀ b ∈ (sfMk s).1 ++ (sfNu s).1, isNmS b.1 = true ∧ b.1.length ≤ 6 := fun b hb => nm_parts (h1 _ (by
    show b.1 ∈ (sfNm s).1
    rw [← hall]
    exact List.mem_map_of_mem (f := fun b : Bx => b.1) hb))
  have hmk : ∀ b ∈ (sfMk s).1, bxIn (sfWd s) b := sb_all (by omega) w2 _ _ _
  have hnu : ∀ b ∈ (sfNu s).1, bxIn 5 b := sb_all (by decide) (by decide) _ _ _
  refine ⟨by rw [sfMk_len]; exact m1, by rw [sfMk_len]; exact m2, by rw [sfNu_len]; exact n1, fun b h => ?_, fun b h => ?_, by rw [hall]; exact h2⟩
  · obtain ⟨a, b'⟩ := hn b (List.mem_append_left _ h)
    obtain ⟨x1, x2, x3, x4⟩ := hmk b h
    exact ⟨a, b', by omega, x2, by omega, by omega⟩
  · obtain ⟨a, b'⟩ := hn b (List.mem_append_right _ h)
    obtain ⟨x1, x2, x3, x4⟩ := hnu b h
    exact ⟨a, b', by omega, x2, by omega, x4⟩

/-! ### sums -/
theorem su_get (m o : Nat) (s : Bs) : ∀ n i, i < n → (suF m o s n).1[i]? = some (suX m o i (suF m o s i).2)
  | 0, i, h => by omega
  | n + 1, i, h => by
    show ((suF m o s n).1 ++ [suX m o n (suF m o s n).2])[i]? = _
    by_cases h1 : i < n
    · rw [List.getElem?_append_left (by rw [su_len]; exact h1)]
      exact su_get m o s n i h1
    · have : i = n := by omega
      subst this
      rw [List.getElem?_append_right (by rw [su_len]; exact Nat.le_refl _), su_len, Nat.sub_self]
      rfl
theorem sum_zero {m n o : Nat} (s : Bs) {i : Nat} (h1 : o ≤ i) (h2 : i < m) : (sumF m n o s).1[i]? = some 0 := by
  show ((suF m o s (m + n)).1 ++ [(suE m n o s).1 - 6])[i]? = some 0
  rw [List.getElem?_append_left (by rw [su_len]; omega), su_get m o s (m + n) i (by omega)]
  unfold suX PR.b2i
  rw [decide_eq_false (show ¬ (i : Int) < (o : Int) by omega), decide_eq_false (show ¬ (m : Int) ≤ (i : Int) by omega)]
  show some (_ * (0 : Int)) = some 0
  rw [Int.mul_zero]
theorem sum_of {mk nu : List Bx} (o : Nat) (s : Bs) : okOf mk nu o (sumF mk.length nu.length o s).1 := ⟨sum_len _ _ _ _, fun i h1 h2 => sum_zero s h1 h2⟩
/-- small numbers, small sums -/
def smi (i : Int) : Prop := -100 < i ∧ i < 100
def smS (s : List Int) : Prop := s.length ≤ 6 ∧ ∀ v ∈ s, smi v
theorem su_sm (m o : Nat) (s : Bs) : ∀ n, ∀ v ∈ (suF m o s n).1, smi v
  | 0, v, h => by cases h
  | n + 1, v, h => by
    rcases List.mem_append.mp h with h | h
    · exact su_sm m o s n v h
    · rw [List.mem_singleton.mp h]
      have := su_bd (suF m o s n).2
      unfold suX PR.b2i smi
      split <;> omega
theorem sum_sm {m n : Nat} (h : m + n ≤ 5) (o : Nat) (s : Bs) : smS (sumF m n o s).1 := by
  refine ⟨by rw [sum_len]; omega, fun v hv => ?_⟩
  rcases List.mem_append.mp hv with hv | hv
  · exact su_sm _ _ _ _ v hv
  · rw [List.mem_singleton.mp hv]
    have a0 : 0 ≤ (suE m n o s).1 := tk_ge (by decide)
    have a1 : (suE m n o s).1 < 13 := tk_lt (by decide)
    unfold smi
    omega
def smB (b : Bd) : Prop := smi b.1 ∧ smS b.2
/-- a bound as it is drawn -/
def bdOk (mk nu : List Bx) (o : Nat) (b : Bd) : Prop := 1 ≤ b.1 ∧ okOf mk nu o b.2 ∧ smB b
def gsOk (mk nu : List Bx) (o N G : Nat) (gs : List (List Bd)) : Prop := 1 ≤ gs.length ∧ gs.length ≤ N ∧ ∀ g ∈ gs, g.length ≤ G ∧ ∀ b ∈ g, bdOk mk nu o b
theorem gpB_ok {mk nu : List Bx} (hn : mk.length + nu.length ≤ 5) (o : Nat) (s : Bs) : bdOk mk nu o (gpB mk.length nu.length o s).1 := by
  have h : gpY s ∈ [1, 1, 2, 3] := pk_in (tk_ge (by decide)) (tk_lt (by decide))
  simp only [List.mem_cons, List.not_mem_nil, or_false] at h
  refine ⟨?_, sum_of _ _, ⟨?_, sum_sm hn _ _⟩⟩
  · show 1 ≤ gpY s
    omega
  · show smi (gpY s)
    unfold smi
    omega
theorem gp_all {mk nu : List Bx} (hn : mk.length + nu.length ≤ 5) (o : Nat) (s : Bs) : ∀ i, ∀ b ∈ (gpF mk.length nu.length o s i).1, bdOk mk nu o b
  | 0, b, h => by cases h
  | i + 1, b, h => by
    rcases List.mem_append.mp h with h | h
    · exact gp_all hn o s i b h
    · rw [List.mem_singleton.mp h]
      exact gpB_ok hn o _
theorem gs_all {mk nu : List Bx} (hn : mk.length + nu.length ≤ 5) (o : Nat) (s : Bs) : ∀ i, ∀ g ∈ (gsF mk.length nu.length o s i).1, g.length ≤ 2 ∧ ∀ b ∈ g, bdOk mk nu o b
  | 0, g, h => by cases h
  | i + 1, g, h => by
    rcases List.mem_append.mp h with h | h
    · exact gs_all hn o s i g h
    · rw [List.mem_singleton.mp h]
      refine ⟨?_, gp_all hn o _ _⟩
      have := t3 (gsF mk.length nu.length o s i).2
      show (gpF _ _ _ _ _).1.length ≤ 2
      rw [gp_len]
      omega
theorem groups_all {mk nu : List Bx} (hn : mk.length + nu.length ≤ 5) (o : Nat) (s : Bs) : gsOk mk nu o 4 2 (groupsF mk.length nu.length o s).1 := by
  unfold groupsF
  split
  · exact ⟨Nat.le_refl 1, (show 1 ≤ 4 by decide), fun g h => by
      rw [List.mem_singleton.mp h]
      exact ⟨Nat.zero_le 2, fun b h => by cases h⟩⟩
  · have := gsN_bd s
    exact ⟨by rw [gs_len]; omega, by rw [gs_len]; omega, gs_all hn o _ _⟩
theorem gsOk.gr {mk nu : List Bx} {o N G : Nat} {gs : List (List Bd)} (h : gsOk mk nu o N G gs) (hN : N ≤ 20) (hG : G ≤ 1000) : okGr mk nu o gs :=
  ⟨h.1, by have := h.2.1; omega, fun g hg => ⟨by have := (h.2.2 g hg).1; omega, fun b hb => ⟨((h.2.2 g hg).2 b hb).1, ((h.2.2 g hg).2 b hb).2.1⟩⟩⟩
theorem grL_ok {mk nu : List Bx} {o : Nat} {a c : List Int} (ha : okOf mk nu o a) (hc : okOf mk nu o c) (sa : smS a) (sc : smS c) : gsOk mk nu o 20 60 (grL a c) := by
  have hlen : (grL a c).length = 20 := by
    unfold grL
    rw [List.length_flatten, List.map_replicate, List.sum_replicate_nat]
    rfl
  refine ⟨by rw [hlen]; decide, by rw [hlen]; exact Nat.le_refl _, fun g hg => ?_⟩
  unfold grL at hg
  obtain ⟨L, hL, hg⟩ := List.mem_flatten.mp hg
  rw [(List.mem_replicate.mp hL).2] at hg
  simp only [List.mem_cons, List.not_mem_nil, or_false] at hg
  rcases hg with rfl | rfl | rfl | rfl
  · exact ⟨by rw [List.length_replicate]; exact Nat.le_refl _, fun b hb => by
      rw [(List.mem_replicate.mp hb).2]
      exact ⟨(show (1 : Int) ≤ 1 by decide), ha, ⟨(show smi 1 from ⟨by decide, by decide⟩), sa⟩⟩⟩
  · exact ⟨Nat.zero_le _, fun b hb => by cases hb⟩
  · exact ⟨(show 1 ≤ 60 by decide), fun b hb => by
      rw [List.mem_singleton.mp hb]
      exact ⟨(show (1 : Int) ≤ 3 by decide), hc, ⟨(show smi 3 from ⟨by decide, by decide⟩), sc⟩⟩⟩
  · exact ⟨Nat.zero_le _, fun b hb => by cases hb⟩
theorem gsOk.rev {mk nu : List Bx} {o N G : Nat} {gs : List (List Bd)} (h : gsOk mk nu o N G gs) : gsOk mk nu o N G gs.reverse :=
  ⟨by rw [List.length_reverse]; exact h.1, by rw [List.length_reverse]; exact h.2.1, fun g hg => h.2.2 g (List.mem_reverse.mp hg)⟩

/-! ### steps, wishes -/
def smT : Option Bd → Prop
  | none => True
  | some b => smB b
theorem stY_bd (s : Bs) : stY s = 2 ∨ stY s = 3 ∨ stY s = 4 ∨ stY s = 5 := by
  have a0 : 0 ≤ (tk (tk s 3).2 4).1 := tk_ge (by decide)
  have a1 : (tk (tk s 3).2 4).1 < 4 := tk_lt (by decide)
  unfold stY
  omega
theorem step_all {mk nu : List Bx} (hn : mk.length + nu.length ≤ 5) {o : Nat} (ho : o < mk.length) (s : Bs) : okSt mk nu o (stepF mk.length nu.length o s).1 ∧ smT (stepF mk.length nu.length o s).1 := by
  unfold stepF
  split
  · exact ⟨trivial, trivial⟩
  · have hy := stY_bd s
    have hv : stV mk.length nu.length o s ∈ [1, -1, stY s + 1, 1 - stY s] := pk_in (tk_ge (by decide)) (tk_lt (by decide))
    simp only [List.mem_cons, List.not_mem_nil, or_false] at hv
    have hsl : (stS mk.length nu.length o s).1.length = mk.length + nu.length + 1 := sum_len _ _ _ _
    have hsm : smS (stS mk.length nu.length o s).1 := sum_sm hn _ _
    refine ⟨⟨by show 2 ≤ stY s; omega, by show stY s ≤ 5; omega, ⟨by rw [List.length_set]; exact hsl, fun i h1 h2 => ?_⟩, ?_⟩, ⟨by show smi (stY s); unfold smi; omega, by rw [List.length_set]; exact hsm.1, fun v hv' => ?_⟩⟩
    · show ((stS mk.length nu.length o s).1.set o (stV mk.length nu.length o s))[i]? = some 0
      rw [List.getElem?_set_ne (by omega)]
      exact sum_zero _ h1 h2
    · show gcdL [stY s, ((stS mk.length nu.length o s).1.set o (stV mk.length nu.length o s)).getD o 0] = 1
      have e : ((stS mk.length nu.length o s).1.set o (stV mk.length nu.length o s)).getD o 0 = stV mk.length nu.length o s := by
        rw [List.getD_eq_getElem?_getD, List.getElem?_set_self (by omega)]
        rfl
      rw [e]
      generalize stY s = y at hy hv
      generalize stV mk.length nu.length o s = v at hv
      rcases hy with rfl | rfl | rfl | rfl <;> rcases hv with rfl | rfl | rfl | rfl <;> decide +kernel
    · rcases List.mem_or_eq_of_mem_set hv' with h | h
      · exact hsm.2 v h
      · rw [h]
        unfold smi
        omega
def smW : Ws → Prop
  | .most s => smS s
  | .even b s => smi b ∧ smS s
theorem wish_all {mk nu : List Bx} (hn : mk.length + nu.length ≤ 5) (o : Nat) (s : Bs) : okWs mk nu o (wishF mk.length nu.length o s).1 ∧ smW (wishF mk.length nu.length o s).1 := by
  have hy := stY_bd s
  unfold wishF
  split
  · exact ⟨⟨by omega, by omega, sum_of _ _⟩, ⟨by unfold smi; omega, sum_sm hn _ _⟩⟩
  · exact ⟨sum_of _ _, sum_sm hn _ _⟩
theorem ws_all {mk nu : List Bx} (hn : mk.length + nu.length ≤ 5) (o : Nat) (s : Bs) : ∀ i, ∀ w ∈ (wsF mk.length nu.length o s i).1, okWs mk nu o w ∧ smW w
  | 0, w, h => by cases h
  | i + 1, w, h => by
    rcases List.mem_append.mp h with h | h
    · exact ws_all hn o s i w h
    · rw [List.mem_singleton.mp h]
      exact wish_all hn o _
theorem wsN_all {mk nu : List Bx} (hn : mk.length + nu.length ≤ 5) (o : Nat) (s : Bs) : 1 ≤ (wsN mk.length nu.length o s).1.length ∧ (wsN mk.length nu.length o s).1.length ≤ 3 ∧ ∀ w ∈ (wsN mk.length nu.length o s).1, okWs mk nu o w ∧ smW w := by
  have := t3 s
  have e : (wsN mk.length nu.length o s).1.length = (1 + (tk s 3).1).toNat := ws_len _ _ _ _ _
  exact ⟨by rw [e]; omega, by rw [e]; omega, ws_all hn o _ _⟩
end H

set_option Elab.async false
set_option linter.all false
set_option maxRecDepth 100000
set_option maxHeartbeats 4000000
namespace H
open PySem PySem.Spec PyProof.Rows L2 PR

/-! ### a well made part of a program: what is asked of each node, with its box, small, and its weight -/
def ndW : Nat → Nd → Nat
  | 0, _ => 0
  | _ + 1, .deed _ => 20
  | k + 1, .test ws b => 20 + 100 * ws.length + (b.map (ndW k)).sum
  | k + 1, .rnd _ _ _ _ l h _ b => 200 + (l.map fun g => 100 * g.length + 2).sum + (h.map fun g => 100 * g.length + 2).sum + (b.map (ndW k)).sum
/-- .. at most k levels, o marks open -/
def good (mk nu : List Bx) : Nat → Nat → Nd → Prop
  | 0, _, _ => False
  | _ + 1, o, .deed w => isNmS w = true ∧ w.length ≤ 6 ∧ o = mk.length
  | k + 1, o, .test ws b => 1 ≤ ws.length ∧ ws.length ≤ 60 ∧ (∀ w ∈ ws, okWs mk nu o w ∧ smW w) ∧ b.length ≤ 60 ∧ ∀ n ∈ b, good mk nu k o n
  | k + 1, o, .rnd n sp lo hi l h s b => sp = o ∧ mk[o]? = some (n, lo, hi) ∧ gsOk mk nu o 20 60 l ∧ gsOk mk nu o 20 60 h ∧ okSt mk nu o s ∧ smT s ∧ b.length ≤ 60 ∧ ∀ n ∈ b, good mk nu k (o + 1) n
theorem good.mono {mk nu : List Bx} : ∀ {k j o : Nat} {n : Nd}, k ≤ j → good mk nu k o n → good mk nu j o n
  | 0, _, _, _, _, h => h.elim
  | k + 1, 0, _, _, hj, _ => by omega
  | k + 1, j + 1, o, .deed w, hj, h => h
  | k + 1, j + 1, o, .test ws b, hj, ⟨h1, h2, h3, h4, h5⟩ => ⟨h1, h2, h3, h4, fun n hn => good.mono (by omega) (h5 n hn)⟩
  | k + 1, j + 1, o, .rnd n sp lo hi l h s b, hj, ⟨h1, h2, h3, h4, h5, h6, h7, h8⟩ => ⟨h1, h2, h3, h4, h5, h6, h7, fun n hn => good.mono (by omega) (h8 n hn)⟩
theorem good.nd {mk nu : List Bx} : ∀ {k o : Nat} {n : Nd}, good mk nu k o n → okNd mk nu k o n
  | 0, _, _, h => h.elim
  | k + 1, o, .deed w, h => h
  | k + 1, o, .test ws b, ⟨h1, h2, h3, h4, h5⟩ => ⟨h1, by omega, fun w hw => (h3 w hw).1, h4, fun n hn => good.nd (h5 n hn)⟩
  | k + 1, o, .rnd n sp lo hi l h s b, ⟨h1, h2, h3, h4, h5, h6, h7, h8⟩ => ⟨h1, h2, h3.gr (by decide) (by decide), h4.gr (by decide) (by decide), h5, h7, fun n hn => good.nd (h8 n hn)⟩
theorem good.hn {mk nu : List Bx} : ∀ {k o : Nat} {n : Nd}, good mk nu k o n → hN k n
  | 0, _, _, h => h.elim
  | k + 1, o, .deed w, h => trivial
  | k + 1, o, .test ws b, ⟨h1, h2, h3, h4, h5⟩ => ⟨by omega, fun n hn => good.hn (h5 n hn)⟩
  | k + 1, o, .rnd n sp lo hi l h s b, ⟨h1, h2, h3, h4, h5, h6, h7, h8⟩ => ⟨by omega, fun n hn => good.hn (h8 n hn)⟩
theorem hN.mono : ∀ {k j : Nat} {n : Nd}, k ≤ j → hN k n → hN j n
  | 0, _, _, _, h => h.elim
  | k + 1, 0, _, hj, _ => by omega
  | k + 1, j + 1, .deed w, hj, h => trivial
  | k + 1, j + 1, .test ws b, hj, ⟨h1, h2⟩ => ⟨h1, fun n hn => hN.mono (by omega) (h2 n hn)⟩
  | k + 1, j + 1, .rnd n sp lo hi l h s b, hj, ⟨h1, h2⟩ => ⟨h1, fun n hn => hN.mono (by omega) (h2 n hn)⟩

/-! ### shown -/
theorem strOk_nm {s : Str} (h : isNmS s = true) : PyData.strOk s = true := by
  unfold isNmS at h
  rw [Bool.and_eq_true, Bool.and_eq_true, Bool.and_eq_true] at h
  have h1 := List.all_eq_true.mp h.2.1
  have key : ∀ c ∈ ("abcdefghijklmnopqrstuvwxyz" : Str).cps.toList, c < 0x110000 := by decide +kernel
  unfold PyData.strOk
  rw [Array.all_eq_true']
  intro c hc
  exact decide_eq_true (key c (of_decide_eq_true (h1 c (by simpa using hc))))
mutual
/-- small plain data -/
def sml : PR.D → Prop
  | .non => True
  | .bl _ => True
  | .int i => smi i
  | .str s => PyData.strOk s = true
  | .tup ds => smlA ds
  | .lst ds => smlA ds
  | _ => False
def smlA : List PR.D → Prop
  | [] => True
  | d :: ds => sml d ∧ smlA ds
end
theorem smlA_all : ∀ {ds : List PR.D}, (∀ d ∈ ds, sml d) → smlA ds
  | [], _ => trivial
  | d :: r, h => ⟨h d List.mem_cons_self, smlA_all fun x hx => h x (List.mem_cons_of_mem _ hx)⟩
theorem int_short : ∀ j : Fin 200, (PyData.shown (.int (((j : Nat) : Int) - 100))).length ≤ 8 := by decide +kernel
theorem int_log : ∀ j : Fin 200, (((j : Nat) : Int) - 100).natAbs.log2 < 7 := by decide +kernel
theorem smi_at {i : Int} (h : smi i) : ∃ j : Fin 200, i = ((j : Nat) : Int) - 100 := by
  obtain ⟨h1, h2⟩ := h
  exact ⟨⟨(i + 100).toNat, by omega⟩, by show i = (((i + 100).toNat : Nat) : Int) - 100; omega⟩
mutual
theorem sml_show : ∀ d : PR.D, sml d → (py d).showable = true ∧ (py d).leavesShort 8 = true
  | .non, _ => ⟨by simp [py, PyData.showable], by simp [py, PyData.leavesShort]⟩
  | .bl _, _ => ⟨by simp [py, PyData.showable], by simp [py, PyData.leavesShort]⟩
  | .int i, h => by
    obtain ⟨j, e⟩ := smi_at h
    have a := int_log j
    have b := int_short j
    rw [← e] at a b
    refine ⟨?_, ?_⟩
    · simp only [py, PyData.showable]
      exact decide_eq_true (by omega)
    · simp only [py, PyData.leavesShort]
      exact decide_eq_true b
  | .str s, h => by
    have h : PyData.strOk s = true := h
    unfold PyData.strOk at h
    rw [Array.all_eq_true'] at h
    refine ⟨by simp [py, PyData.showable], ?_⟩
    simp only [py, PyData.leavesShort]
    refine List.all_eq_true.mpr fun c hc => decide_eq_true ?_
    have := of_decide_eq_true (h c (by simpa using hc))
    omega
  | .tup ds, h => by
    obtain ⟨a, b⟩ := smlA_show ds h
    exact ⟨by simpa only [py, PyData.showable] using a, by simpa only [py, PyData.leavesShort] using b⟩
  | .lst ds, h => by
    obtain ⟨a, b⟩ := smlA_show ds h
    exact ⟨by simpa only [py, PyData.showable] using a, by simpa only [py, PyData.leavesShort] using b⟩
  | .ty _, h => h.elim
  | .ins _ _, h => h.elim
  | .obj _, h => h.elim
  | .scr _, h => h.elim
theorem smlA_show : ∀ ds : List PR.D, smlA ds → PyData.showableAll (pyA ds) = true ∧ PyData.leavesShortAll 8 (pyA ds) = true
  | [], _ => ⟨by simp [pyA, PyData.showableAll], by simp [pyA, PyData.leavesShortAll]⟩
  | d :: r, ⟨h1, h2⟩ => by
    obtain ⟨a, b⟩ := sml_show d h1
    obtain ⟨a2, b2⟩ := smlA_show r h2
    exact ⟨by simp only [pyA, PyData.showableAll, a, a2, Bool.and_self], by simp only [pyA, PyData.leavesShortAll, b, b2, Bool.and_self]⟩
end
/-- weights -/
def wd (d : PR.D) : Nat := (py d).weight
def wA (ds : List PR.D) : Nat := PyData.weightAll (pyA ds)
theorem wA_cons (d : PR.D) (r : List PR.D) : wA (d :: r) = wd d + 1 + wA r := by
  unfold wA wd
  simp only [pyA, PyData.weightAll]
theorem wA_nil : wA [] = 0 := by
  unfold wA
  simp only [pyA, PyData.weightAll]
theorem wd_tup (ds : List PR.D) : wd (.tup ds) = wA ds := by
  unfold wA wd
  simp only [py, PyData.weight]
theorem wd_int {i : Int} (h : smi i) : wd (.int i) ≤ 7 := by
  obtain ⟨j, e⟩ := smi_at h
  have a := int_log j
  rw [← e] at a
  unfold wd
  simp only [py, PyData.weight]
  split <;> omega
theorem wd_str (s : Str) : wd (.str s) = s.length := by
  unfold wd
  simp only [py, PyData.weight]
  rfl
theorem wA_le {c : Nat} : ∀ {ds : List PR.D}, (∀ d ∈ ds, wd d ≤ c) → wA ds ≤ ds.length * (c + 1)
  | [], _ => by rw [wA_nil]; exact Nat.zero_le _
  | d :: r, h => by
    have h1 := h d List.mem_cons_self
    have h2 := wA_le (ds := r) fun x hx => h x (List.mem_cons_of_mem _ hx)
    rw [wA_cons, List.length_cons, Nat.add_mul]
    omega
/-- what is shown: levels, small, weight -/
theorem shd_of {n : Nat} {d : PR.D} (h1 : okD n d = true) (hn : n ≤ 60) (h2 : sml d) (h3 : wd d ≤ 2 ^ 20) : ShD n d :=
  ⟨h1, hn, (sml_show d h2).1, PyData.shown_fits (B := 8) (by decide) (by decide) (sml_show d h2).2 h3⟩

theorem sum_sml {s : List Int} (h : smS s) : sml (sumD s) ∧ wd (sumD s) ≤ 48 ∧ ∀ n, okD (n + 1) (sumD s) = true := by
  refine ⟨?_, ?_, fun n => ?_⟩
  · show smlA (s.map .int)
    refine smlA_all fun d hd => ?_
    obtain ⟨i, hi, rfl⟩ := List.mem_map.mp hd
    exact h.2 i hi
  · unfold sumD
    rw [wd_tup]
    have := wA_le (c := 7) (ds := s.map PR.D.int) (fun d hd => by
      obtain ⟨i, hi, rfl⟩ := List.mem_map.mp hd
      exact wd_int (h.2 i hi))
    rw [List.length_map] at this
    have := h.1
    omega
  · show okA n (s.map .int) = true
    refine okA_all fun d hd => ?_
    obtain ⟨i, hi, rfl⟩ := List.mem_map.mp hd
    cases n <;> rfl
theorem okD_i (n : Nat) (i : Int) : okD n (.int i) = true := by cases n <;> rfl
theorem okD_s {n : Nat} {s : Str} (h : PyData.strOk s = true) : okD n (.str s) = true := by cases n <;> exact h
theorem okA_c {n : Nat} {d : PR.D} {r : List PR.D} (h1 : okD n d = true) (h2 : okA n r = true) : okA n (d :: r) = true := by
  cases n <;> exact Bool.and_eq_true_iff.mpr ⟨h1, h2⟩
theorem okA_n (n : Nat) : okA n [] = true := by cases n <;> rfl
theorem bd_sml {b : Bd} (h : smB b) : sml (bdD b) ∧ wd (bdD b) ≤ 57 ∧ ∀ n, okD (n + 2) (bdD b) = true := by
  obtain ⟨a1, a2, a3⟩ := sum_sml h.2
  have := wd_int h.1
  refine ⟨⟨h.1, a1, trivial⟩, ?_, fun n => okA_c (okD_i _ _) (okA_c (a3 n) (okA_n _))⟩
  unfold bdD
  rw [wd_tup, wA_cons, wA_cons, wA_nil]
  omega
theorem gp_sml {g : List Bd} (h : ∀ b ∈ g, smB b) : sml (gpD g) ∧ wd (gpD g) ≤ 100 * g.length ∧ ∀ n, okD (n + 3) (gpD g) = true := by
  refine ⟨?_, ?_, fun n => ?_⟩
  · show smlA (g.map bdD)
    refine smlA_all fun d hd => ?_
    obtain ⟨i, hi, rfl⟩ := List.mem_map.mp hd
    exact (bd_sml (h i hi)).1
  · unfold gpD
    rw [wd_tup]
    have := wA_le (c := 57) (ds := g.map bdD) (fun d hd => by
      obtain ⟨i, hi, rfl⟩ := List.mem_map.mp hd
      exact (bd_sml (h i hi)).2.1)
    rw [List.length_map] at this
    omega
  · show okA (n + 2) (g.map bdD) = true
    refine okA_all fun d hd => ?_
    obtain ⟨i, hi, rfl⟩ := List.mem_map.mp hd
    exact (bd_sml (h i hi)).2.2 n
def gw (gs : List (List Bd)) : Nat := (gs.map fun g => 100 * g.length + 2).sum
theorem gs_w : ∀ {gs : List (List Bd)}, (∀ g ∈ gs, ∀ b ∈ g, smB b) → wA (gs.map gpD) ≤ gw gs
  | [], _ => by rw [List.map_nil, wA_nil]; exact Nat.zero_le _
  | g :: r, h => by
    have h1 := (gp_sml (h g List.mem_cons_self)).2.1
    have h2 := gs_w (gs := r) fun x hx => h x (List.mem_cons_of_mem _ hx)
    rw [List.map_cons, wA_cons]
    show _ ≤ (100 * g.length + 2) + gw r
    omega
theorem gs_sml {gs : List (List Bd)} (h : ∀ g ∈ gs, ∀ b ∈ g, smB b) : sml (gsD gs) ∧ wd (gsD gs) ≤ gw gs ∧ ∀ n, okD (n + 4) (gsD gs) = true := by
  refine ⟨?_, ?_, fun n => ?_⟩
  · show smlA (gs.map gpD)
    refine smlA_all fun d hd => ?_
    obtain ⟨i, hi, rfl⟩ := List.mem_map.mp hd
    exact (gp_sml (h i hi)).1
  · unfold gsD
    rw [wd_tup]
    exact gs_w h
  · show okA (n + 3) (gs.map gpD) = true
    refine okA_all fun d hd => ?_
    obtain ⟨i, hi, rfl⟩ := List.mem_map.mp hd
    exact (gp_sml (h i hi)).2.2 n
theorem st_sml {st : Option Bd} (h : smT st) : sml (stD st) ∧ wd (stD st) ≤ 57 ∧ ∀ n, okD (n + 2) (stD st) = true := by
  cases st with
  | none => exact ⟨trivial, by unfold wd stD; simp [py, PyData.weight], fun n => rfl⟩
  | some b => exact bd_sml h
theorem ws_sml {w : Ws} (h : smW w) : sml (wsD w) ∧ wd (wsD w) ≤ 70 ∧ ∀ n, okD (n + 2) (wsD w) = true := by
  have k1 : PyData.strOk "most" = true := by decide +kernel
  have k2 : PyData.strOk "even" = true := by decide +kernel
  cases w with
  | most s =>
    obtain ⟨a1, a2, a3⟩ := sum_sml h
    refine ⟨⟨k1, a1, trivial⟩, ?_, fun n => okA_c (okD_s k1) (okA_c (a3 n) (okA_n _))⟩
    have e : ("most" : Str).length = 4 := rfl
    unfold wsD
    rw [wd_tup, wA_cons, wA_cons, wA_nil, wd_str, e]
    omega
  | even b s =>
    obtain ⟨a1, a2, a3⟩ := sum_sml h.2
    have := wd_int h.1
    refine ⟨⟨k2, h.1, a1, trivial⟩, ?_, fun n => okA_c (okD_s k2) (okA_c (okD_i _ _) (okA_c (a3 n) (okA_n _)))⟩
    have e : ("even" : Str).length = 4 := rfl
    unfold wsD
    rw [wd_tup, wA_cons, wA_cons, wA_cons, wA_nil, wd_str, e]
    omega
end H

set_option Elab.async false
set_option linter.all false
set_option maxRecDepth 100000
set_option maxHeartbeats 4000000
namespace H
open PySem PySem.Spec PyProof.Rows L2 PR

theorem pds_w {f : Nd → Nat} : ∀ {b : List Nd}, (∀ n ∈ b, wd (pD n) + 1 ≤ f n) → wA (pDs b) ≤ (b.map f).sum
  | [], _ => by show wA [] ≤ _; rw [wA_nil]; exact Nat.zero_le _
  | n :: r, h => by
    have h1 := h n List.mem_cons_self
    have h2 := pds_w (b := r) fun x hx => h x (List.mem_cons_of_mem _ hx)
    show wA (pD n :: pDs r) ≤ _
    rw [wA_cons, List.map_cons, List.sum_cons]
    omega
theorem pds_mem {b : List Nd} {d : PR.D} (h : d ∈ pDs b) : ∃ n ∈ b, d = pD n := by
  rw [pDs_map] at h
  obtain ⟨n, h1, h2⟩ := List.mem_map.mp h
  exact ⟨n, h1, h2.symm⟩
theorem wst_sml {ws : List Ws} (h : ∀ w ∈ ws, smW w) : sml (.tup (ws.map wsD)) ∧ wd (.tup (ws.map wsD)) ≤ 71 * ws.length ∧ ∀ n, okD (n + 3) (.tup (ws.map wsD)) = true := by
  refine ⟨?_, ?_, fun n => ?_⟩
  · show smlA (ws.map wsD)
    refine smlA_all fun d hd => ?_
    obtain ⟨i, hi, rfl⟩ := List.mem_map.mp hd
    exact (ws_sml (h i hi)).1
  · rw [wd_tup]
    have := wA_le (c := 70) (ds := ws.map wsD) (fun d hd => by
      obtain ⟨i, hi, rfl⟩ := List.mem_map.mp hd
      exact (ws_sml (h i hi)).2.1)
    rw [List.length_map] at this
    omega
  · show okA (n + 2) (ws.map wsD) = true
    refine okA_all fun d hd => ?_
    obtain ⟨i, hi, rfl⟩ := List.mem_map.mp hd
    exact (ws_sml (h i hi)).2.2 n
theorem str_ok : PyData.strOk "deed" = true ∧ PyData.strOk "test" = true ∧ PyData.strOk "round" = true := by decide +kernel
theorem str_len : ("deed" : Str).length = 4 ∧ ("test" : Str).length = 4 ∧ ("round" : Str).length = 5 := ⟨rfl, rfl, rfl⟩
theorem nd_sml {mk nu : List Bx} (fr : okFr mk nu) : ∀ (k o : Nat) (n : Nd), good mk nu k o n → sml (pD n) ∧ wd (pD n) + 1 ≤ ndW k n ∧ ∀ e, okD (e + 2 * k + 6) (pD n) = true
  | 0, _, _, h => h.elim
  | k + 1, o, .deed w, ⟨h1, h2, h3⟩ => by
    have hw := strOk_nm h1
    refine ⟨⟨str_ok.1, hw, trivial⟩, ?_, fun e => okA_c (okD_s str_ok.1) (okA_c (okD_s hw) (okA_n _))⟩
    show wd (.tup [.str "deed", .str w]) + 1 ≤ 20
    rw [wd_tup, wA_cons, wA_cons, wA_nil, wd_str, wd_str, str_len.1]
    omega
  | k + 1, o, .test ws b, ⟨h1, h2, h3, h4, h5⟩ => by
    obtain ⟨a1, a2, a3⟩ := wst_sml fun w hw => (h3 w hw).2
    have ih := fun n hn => nd_sml fr k o n (h5 n hn)
    have hb := pds_w (f := ndW k) fun n hn => (ih n hn).2.1
    refine ⟨⟨str_ok.2.1, a1, smlA_all fun d hd => ?_, trivial⟩, ?_, fun e => okA_c (okD_s str_ok.2.1) (okA_c (a3 (e + 2 * k + 4)) (okA_c ?_ (okA_n _)))⟩
    · obtain ⟨n, hn, rfl⟩ := pds_mem hd
      exact (ih n hn).1
    · show wd (.tup [.str "test", .tup (ws.map wsD), .tup (pDs b)]) + 1 ≤ 20 + 100 * ws.length + (b.map (ndW k)).sum
      rw [wd_tup, wA_cons, wA_cons, wA_cons, wA_nil, wd_str, str_len.2.1, wd_tup (pDs b)]
      omega
    · show okA (e + 2 * k + 6) (pDs b) = true
      refine okA_all fun d hd => ?_
      obtain ⟨n, hn, rfl⟩ := pds_mem hd
      exact (ih n hn).2.2 e
  | k + 1, o, .rnd nm sp lo hi l h s b, ⟨h1, h2, h3, h4, h5, h6, h7, h8⟩ => by
    have hbx := fr.bm _ (List.mem_of_getElem? h2)
    have hnm : PyData.strOk nm = true := strOk_nm hbx.1
    have hnl : nm.length ≤ 6 := hbx.2.1
    obtain ⟨l1, l2, l3⟩ := gs_sml (gs := l) fun g hg b hb => ((h3.2.2 g hg).2 b hb).2.2
    obtain ⟨g1, g2, g3⟩ := gs_sml (gs := h) fun g hg b hb => ((h4.2.2 g hg).2 b hb).2.2
    obtain ⟨s1, s2, s3⟩ := st_sml h6
    have ih := fun n hn => nd_sml fr k (o + 1) n (h8 n hn)
    have hb := pds_w (f := ndW k) fun n hn => (ih n hn).2.1
    refine ⟨⟨str_ok.2.2, hnm, l1, g1, s1, smlA_all fun d hd => ?_, trivial⟩, ?_, fun e => okA_c (okD_s str_ok.2.2) (okA_c (okD_s hnm) (okA_c (l3 (e + 2 * k + 3)) (okA_c (g3 (e + 2 * k + 3)) (okA_c (s3 (e + 2 * k + 5)) (okA_c ?_ (okA_n _))))))⟩
    · obtain ⟨n, hn, rfl⟩ := pds_mem hd
      exact (ih n hn).1
    · show wd (.tup [.str "round", .str nm, gsD l, gsD h, stD s, .tup (pDs b)]) + 1 ≤ 200 + gw l + gw h + (b.map (ndW k)).sum
      rw [wd_tup, wA_cons, wA_cons, wA_cons, wA_cons, wA_cons, wA_cons, wA_nil, wd_str, wd_str, str_len.2.2, wd_tup (pDs b)]
      omega
    · show okA (e + 2 * k + 6) (pDs b) = true
      refine okA_all fun d hd => ?_
      obtain ⟨n, hn, rfl⟩ := pds_mem hd
      exact (ih n hn).2.2 e
/-- the frame, shown -/
theorem bx_sml {wd' : Int} {b : Bx} (h : okBx wd' b) : sml (bxD b) ∧ wd (bxD b) ≤ 23 ∧ ∀ n, okD (n + 1) (bxD b) = true := by
  obtain ⟨h1, h2, h3, h4, h5, h6⟩ := h
  have hs := strOk_nm h1
  have i1 : smi b.2.1 := ⟨by omega, by omega⟩
  have i2 : smi b.2.2 := ⟨by omega, by omega⟩
  refine ⟨⟨hs, i1, i2, trivial⟩, ?_, fun n => okA_c (okD_s hs) (okA_c (okD_i _ _) (okA_c (okD_i _ _) (okA_n _)))⟩
  have := wd_int i1
  have := wd_int i2
  unfold bxD
  rw [wd_tup, wA_cons, wA_cons, wA_cons, wA_nil, wd_str]
  omega
theorem bxs_sml {wd' : Int} {bs : List Bx} (h : ∀ b ∈ bs, okBx wd' b) : sml (.tup (bs.map bxD)) ∧ wd (.tup (bs.map bxD)) ≤ 24 * bs.length ∧ ∀ n, okD (n + 2) (.tup (bs.map bxD)) = true := by
  refine ⟨?_, ?_, fun n => ?_⟩
  · show smlA (bs.map bxD)
    refine smlA_all fun d hd => ?_
    obtain ⟨i, hi, rfl⟩ := List.mem_map.mp hd
    exact (bx_sml (h i hi)).1
  · rw [wd_tup]
    have := wA_le (c := 23) (ds := bs.map bxD) (fun d hd => by
      obtain ⟨i, hi, rfl⟩ := List.mem_map.mp hd
      exact (bx_sml (h i hi)).2.1)
    rw [List.length_map] at this
    omega
  · show okA (n + 1) (bs.map bxD) = true
    refine okA_all fun d hd => ?_
    obtain ⟨i, hi, rfl⟩ := List.mem_map.mp hd
    exact (bx_sml (h i hi)).2.2 n
theorem fr_sml {mk nu : List Bx} (fr : okFr mk nu) : sml (toD2 mk nu) ∧ wd (toD2 mk nu) ≤ 200 ∧ ∀ n, okD (n + 3) (toD2 mk nu) = true := by
  obtain ⟨a1, a2, a3⟩ := bxs_sml fr.bm
  obtain ⟨b1, b2, b3⟩ := bxs_sml fr.bn
  have := fr.m2
  have := fr.n2
  refine ⟨⟨a1, b1, trivial⟩, ?_, fun n => okA_c (a3 n) (okA_c (b3 n) (okA_n _))⟩
  unfold toD2
  rw [wd_tup, wA_cons, wA_cons, wA_nil]
  omega
theorem nat_short : ∀ j : Fin 251, (PyData.shown (.int ((j : Nat) : Int))).length ≤ 8 ∧ ((j : Nat) : Int).natAbs.log2 < 1920 := by decide +kernel
theorem shd_nat {n : Nat} (h : n ≤ 250) : ShD 0 (.int (n : Int)) := by
  obtain ⟨a, b⟩ := nat_short ⟨n, by omega⟩
  refine ⟨rfl, by decide, ?_, ?_⟩
  · simp only [py, PyData.showable]
    exact decide_eq_true b
  · have : (PyData.shown (.int (n : Int))).length ≤ 8 := a
    simp only [py]
    exact Nat.le_trans this (by decide)
/-- all that is asked -/
theorem row_ok {mk nu : List Bx} {ps : List Nd} {k : Nat} (fr : okFr mk nu) (hk : k ≤ 10) (hg : ∀ n ∈ ps, good mk nu k 0 n) (hl : ps.length ≤ 60) (hs : szs ps ≤ 250) (hw : (ps.map (ndW k)).sum ≤ 1000000) : RowOk mk nu ps := by
  have ih := fun n hn => nd_sml fr k 0 n (hg n hn)
  have hb := pds_w (f := ndW k) fun n hn => (ih n hn).2.1
  obtain ⟨f1, f2, f3⟩ := fr_sml fr
  have p1 : sml (.tup (pDs ps)) := smlA_all fun d hd => by
    obtain ⟨n, hn, rfl⟩ := pds_mem hd
    exact (ih n hn).1
  have p3 : ∀ e, okD (e + 2 * k + 7) (.tup (pDs ps)) = true := fun e => okA_all fun d hd => by
    obtain ⟨n, hn, rfl⟩ := pds_mem hd
    exact (ih n hn).2.2 e
  have e27 : (20 - 2 * k) + 2 * k + 7 = 27 := by omega
  have p27 := p3 (20 - 2 * k)
  rw [e27] at p27
  refine ⟨⟨fr, hl, fun n hn => (good.mono hk (hg n hn)).nd, hs⟩, fun n hn => hN.mono (by omega) (hg n hn).hn, shd_of (f3 1) (by decide) f1 (by omega), shd_of p27 (by decide) p1 (by rw [wd_tup]; omega), shd_of (okA_c (f3 24) (okA_c p27 (okA_n _))) (by decide) ⟨f1, p1, trivial⟩ ?_, shd_nat hs⟩
  rw [wd_tup, wA_cons, wA_cons, wA_nil, wd_tup (pDs ps)]
  omega

/-! ### the drawn parts -/
theorem szs_app : ∀ a b : List Nd, szs (a ++ b) = szs a + szs b
  | [], b => by show szs b = 0 + szs b; omega
  | x :: a, b => by
    show sz x + szs (a ++ b) = sz x + szs a + szs b
    rw [szs_app a b]
    omega
def mu (dp : Nat) : Nat := if 3 < dp then 2 else if 1 < dp then 3 else 1
def bB : Nat → Nat
  | 0 => 0
  | d + 1 => mu (d + 1) * (1 + bB d)
theorem ndM_mu (dp : Nat) (h : 1 ≤ dp) (s : Bs) : (ndM dp s).toNat ≤ mu dp := by
  have hb := ndM_bd dp s
  unfold mu
  by_cases h3 : 3 < dp
  · rw [if_pos h3] at hb ⊢
    omega
  · rw [if_neg h3] at hb ⊢
    by_cases h1 : 1 < dp
    · rw [if_pos h1]
      omega
    · rw [if_neg h1]
      have e : dp = 1 := by omega
      subst e
      show (1 : Int).toNat ≤ 1
      decide
theorem gw_le {N G : Nat} : ∀ {gs : List (List Bd)}, gs.length ≤ N → (∀ g ∈ gs, g.length ≤ G) → gw gs ≤ N * (100 * G + 2)
  | [], _, _ => Nat.zero_le _
  | g :: r, h1, h2 => by
    obtain ⟨N', rfl⟩ : ∃ N', N = N' + 1 := ⟨N - 1, by rw [List.length_cons] at h1; omega⟩
    have a := h2 g List.mem_cons_self
    have b := gw_le (N := N') (G := G) (gs := r) (by rw [List.length_cons] at h1; omega) fun x hx => h2 x (List.mem_cons_of_mem _ hx)
    show (100 * g.length + 2) + gw r ≤ _
    rw [Nat.add_mul]
    omega
theorem gsOk.weak {mk nu : List Bx} {o N G N' G' : Nat} {gs : List (List Bd)} (h : gsOk mk nu o N G gs) (h1 : N ≤ N') (h2 : G ≤ G') : gsOk mk nu o N' G' gs :=
  ⟨h.1, Nat.le_trans h.2.1 h1, fun g hg => ⟨Nat.le_trans (h.2.2 g hg).1 h2, (h.2.2 g hg).2⟩⟩
structure Dr (mk nu : List Bx) (k o S W : Nat) (ps : List Nd) : Prop where
  g : ∀ n ∈ ps, good mk nu k o n
  s : szs ps ≤ S
  w : (ps.map (ndW k)).sum ≤ W
theorem wds_nm (i : Nat) : isNmS (wds.getD i "") = true ∧ (wds.getD i "").length ≤ 6 ∨ 4 ≤ i := by
  match i with
  | 0 => exact .inl (by decide +kernel)
  | 1 => exact .inl (by decide +kernel)
  | 2 => exact .inl (by decide +kernel)
  | 3 => exact .inl (by decide +kernel)
  | i + 4 => exact .inr (Nat.le_add_left _ _)
theorem one_dr {mk nu : List Bx} (hn : mk.length + nu.length ≤ 5) {d o S W : Nat} (ho : o ≤ mk.length) {R : Nat → Bs → List Nd × Bs} (hR : ∀ o s, o ≤ mk.length → Dr mk nu d o S W (R o s).1 ∧ (R o s).1.length ≤ 60) (s : Bs) :
    Dr mk nu (d + 1) o (1 + S) (2000 + W) (ndOne mk nu.length o (d + 1) R s).1 := by
  unfold ndOne
  split
  · rename_i h
    have c0 : 0 ≤ (tk (tk s 4).2 4).1 := tk_ge (by decide)
    have c1 : (tk (tk s 4).2 4).1 < 4 := tk_lt (by decide)
    have hw : isNmS (wds.getD (tk (tk s 4).2 4).1.toNat "") = true ∧ (wds.getD (tk (tk s 4).2 4).1.toNat "").length ≤ 6 := by
      rcases wds_nm (tk (tk s 4).2 4).1.toNat with h | h
      · exact h
      · omega
    refine ⟨fun n hn => ?_, ?_, ?_⟩
    · rw [List.mem_singleton.mp hn]
      exact ⟨hw.1, hw.2, h.1⟩
    · show 1 + 0 ≤ 1 + S
      omega
    · show 20 + 0 ≤ 2000 + W
      omega
  · split
    · obtain ⟨a1, a2, a3⟩ := wsN_all hn o (tk s 4).2
      obtain ⟨b1, b2⟩ := hR o (wsN mk.length nu.length o (tk s 4).2).2 ho
      refine ⟨fun n hn => ?_, ?_, ?_⟩
      · rw [List.mem_singleton.mp hn]
        exact ⟨a1, by omega, a3, b2, b1.g⟩
      · show 1 + szs _ + 0 ≤ 1 + S
        have := b1.s
        omega
      · show 20 + 100 * (wsN mk.length nu.length o (tk s 4).2).1.length + _ + 0 ≤ 2000 + W
        have := b1.w
        omega
    · split
      · rename_i h
        have ho' : o < mk.length := h.1
        have g1 := groups_all hn o (tk s 4).2
        have g2 := groups_all hn o (lwF mk.length nu.length o (tk s 4).2).2
        obtain ⟨s1, s2⟩ := step_all hn ho' (hgF mk.length nu.length o (tk s 4).2).2
        obtain ⟨b1, b2⟩ := hR (o + 1) (spF mk.length nu.length o (tk s 4).2).2 ho'
        have w1 : gw (lwF mk.length nu.length o (tk s 4).2).1 ≤ 4 * (100 * 2 + 2) := gw_le g1.2.1 fun g hg => (g1.2.2 g hg).1
        have w2 : gw (hgF mk.length nu.length o (tk s 4).2).1 ≤ 4 * (100 * 2 + 2) := gw_le g2.2.1 fun g hg => (g2.2.2 g hg).1
        have hbx : mk[o]? = some ((mk.getD o ("", 0, 0)).1, (mk.getD o ("", 0, 0)).2.1, (mk.getD o ("", 0, 0)).2.2) := by
          rw [List.getD_eq_getElem?_getD, List.getElem?_eq_getElem ho']
          rfl
        refine ⟨fun n hn => ?_, ?_, ?_⟩
        · rw [List.mem_singleton.mp hn]
          exact ⟨rfl, hbx, g1.weak (by decide) (by decide), g2.weak (by decide) (by decide), s1, s2, b2, b1.g⟩
        · show 1 + szs _ + 0 ≤ 1 + S
          have := b1.s
          omega
        · show 200 + gw (lwF mk.length nu.length o (tk s 4).2).1 + gw (hgF mk.length nu.length o (tk s 4).2).1 + _ + 0 ≤ 2000 + W
          have := b1.w
          omega
      · exact ⟨fun n hn => (by cases hn), Nat.zero_le _, Nat.zero_le _⟩
theorem ndl_dr {mk nu : List Bx} {k o S W : Nat} {one : Bs → List Nd × Bs} (h : ∀ s, Dr mk nu k o S W (one s).1) (s : Bs) : ∀ i, Dr mk nu k o (i * S) (i * W) (ndL one s i).1
  | 0 => ⟨fun n hn => (by cases hn), Nat.zero_le _, Nat.zero_le _⟩
  | i + 1 => by
    have a := ndl_dr h s i
    have b := h (ndL one s i).2
    refine ⟨fun n hn => ?_, ?_, ?_⟩
    · rcases List.mem_append.mp hn with hn | hn
      · exact a.g n hn
      · exact b.g n hn
    · show szs ((ndL one s i).1 ++ (one (ndL one s i).2).1) ≤ _
      rw [szs_app, Nat.add_mul, Nat.one_mul]
      exact Nat.add_le_add a.s b.s
    · show (((ndL one s i).1 ++ (one (ndL one s i).2).1).map (ndW k)).sum ≤ _
      rw [List.map_append, List.sum_append_nat, Nat.add_mul, Nat.one_mul]
      exact Nat.add_le_add a.w b.w
theorem nodes_dr {mk nu : List Bx} (hn : mk.length + nu.length ≤ 5) : ∀ dp o s, o ≤ mk.length → Dr mk nu dp o (bB dp) (2000 * bB dp) (nodesF mk nu.length dp o s).1 ∧ (nodesF mk nu.length dp o s).1.length ≤ 60
  | 0, o, s, ho => ⟨⟨fun n hn => (by cases hn), Nat.zero_le _, Nat.zero_le _⟩, Nat.zero_le _⟩
  | d + 1, o, s, ho => by
    have key := ndl_dr (one := ndOne mk nu.length o (d + 1) (nodesF mk nu.length d)) (fun s => one_dr hn ho (fun o s ho => nodes_dr hn d o s ho) s) (ndB s).2 (ndM (d + 1) s).toNat
    have hm := ndM_mu (d + 1) (by omega) s
    have hl := ndl_len (one := ndOne mk nu.length o (d + 1) (nodesF mk nu.length d)) (fun s => one_len _ _ _ _ _ _) (ndB s).2 (ndM (d + 1) s).toNat
    have hm3 : mu (d + 1) ≤ 3 := by
      unfold mu
      split
      · decide
      · split <;> decide
    refine ⟨⟨key.g, Nat.le_trans key.s (Nat.mul_le_mul_right _ hm), Nat.le_trans key.w ?_⟩, Nat.le_trans hl (by omega)⟩
    have h1 := Nat.mul_le_mul_right (2000 + 2000 * bB d) hm
    have e : mu (d + 1) * (2000 + 2000 * bB d) = 2000 * bB (d + 1) := by
      show mu (d + 1) * (2000 + 2000 * bB d) = 2000 * (mu (d + 1) * (1 + bB d))
      rw [Nat.mul_left_comm 2000 (mu (d + 1)) (1 + bB d), Nat.mul_add 2000 1 (bB d)]
    omega
theorem bB_le : ∀ d, d ≤ 6 → bB d ≤ 182
  | 0, _ => by decide
  | 1, _ => by decide
  | 2, _ => by decide
  | 3, _ => by decide
  | 4, _ => by decide
  | 5, _ => by decide
  | 6, _ => by decide
  | n + 7, h => by omega
theorem gt_dr {mk nu : List Bx} (hn : mk.length + nu.length ≤ 5) (s : Bs) : ∀ i, i ≤ mk.length → Dr mk nu (i + 1) (mk.length - i) (60 + i) (1200 + i * 240280) (gtF mk nu.length s i).1 ∧ (gtF mk nu.length s i).1.length ≤ 60
  | 0, _ => by
    refine ⟨⟨fun n hn => ?_, ?_, ?_⟩, ?_⟩
    · rw [(List.mem_replicate.mp hn).2]
      exact ⟨by decide +kernel, by decide +kernel, by omega⟩
    · show szs (List.replicate 60 (.deed "a")) ≤ 60
      have : ∀ j, szs (List.replicate j (.deed "a")) = j := by
        intro j
        induction j with
        | zero => rfl
        | succ j ih =>
          rw [List.replicate_succ]
          show 1 + szs (List.replicate j (.deed "a")) = j + 1
          omega
      rw [this]
      exact Nat.le_refl _
    · show ((List.replicate 60 (Nd.deed "a")).map (ndW 1)).sum ≤ 1200 + 0 * 240280
      rw [List.map_replicate, List.sum_replicate_nat]
      show 60 * 20 ≤ 1200 + 0 * 240280
      decide
    · show (List.replicate 60 (Nd.deed "a")).length ≤ 60
      rw [List.length_replicate]
      exact Nat.le_refl _
  | i + 1, hi => by
    obtain ⟨a, al⟩ := gt_dr hn s i (by omega)
    have ho : mk.length - 1 - i < mk.length := by omega
    have eo : mk.length - i = (mk.length - 1 - i) + 1 := by omega
    have eo2 : mk.length - (i + 1) = mk.length - 1 - i := by omega
    rw [eo] at a
    rw [eo2]
    generalize hoo : mk.length - 1 - i = o at a ho
    have hg : gsOk mk nu o 20 60 (grL (grA mk.length nu.length o (gtF mk nu.length s i).2).1 (grC mk.length nu.length o (gtF mk nu.length s i).2).1) := grL_ok (sum_of _ _) (sum_of _ _) (sum_sm hn _ _) (sum_sm hn _ _)
    have w1 := gw_le hg.2.1 fun g h => (hg.2.2 g h).1
    have w2 := gw_le hg.rev.2.1 fun g h => (hg.rev.2.2 g h).1
    obtain ⟨s1, s2⟩ := step_all hn ho (grC mk.length nu.length o (gtF mk nu.length s i).2).2
    have hbx : mk[o]? = some ((mk.getD o ("", 0, 0)).1, (mk.getD o ("", 0, 0)).2.1, (mk.getD o ("", 0, 0)).2.2) := by
      rw [List.getD_eq_getElem?_getD, List.getElem?_eq_getElem ho]
      rfl
    have e : (gtF mk nu.length s (i + 1)).1 = [.rnd (mk.getD o ("", 0, 0)).1 o (mk.getD o ("", 0, 0)).2.1 (mk.getD o ("", 0, 0)).2.2 (grL (grA mk.length nu.length o (gtF mk nu.length s i).2).1 (grC mk.length nu.length o (gtF mk nu.length s i).2).1) (grL (grA mk.length nu.length o (gtF mk nu.length s i).2).1 (grC mk.length nu.length o (gtF mk nu.length s i).2).1).reverse (grS mk.length nu.length o (gtF mk nu.length s i).2).1 (gtF mk nu.length s i).1] := by
      rw [← hoo]
      rfl
    rw [e]
    refine ⟨⟨fun n hn => ?_, ?_, ?_⟩, (show 1 ≤ 60 by decide)⟩
    · rw [List.mem_singleton.mp hn]
      exact ⟨rfl, hbx, hg, hg.rev, s1, s2, al, a.g⟩
    · show 1 + szs _ + 0 ≤ 60 + (i + 1)
      have := a.s
      omega
    · show 200 + gw _ + gw _ + _ + 0 ≤ 1200 + (i + 1) * 240280
      have := a.w
      omega
theorem ts_dr {mk nu : List Bx} {ws : List Ws} (h1 : 1 ≤ ws.length) (h2 : ws.length ≤ 60) (hw : ∀ w ∈ ws, okWs mk nu 0 w ∧ smW w) {k S W : Nat} {b : List Nd} (hb : Dr mk nu k 0 S W b) (bl : b.length ≤ 60) : ∀ t, Dr mk nu (k + t) 0 (S + t) (W + t * 6020) (tsW ws b t) ∧ (tsW ws b t).length ≤ 60
  | 0 => ⟨⟨hb.g, hb.s, by have := hb.w; show (b.map (ndW k)).sum ≤ W + 0 * 6020; omega⟩, bl⟩
  | t + 1 => by
    obtain ⟨a, al⟩ := ts_dr h1 h2 hw hb bl t
    refine ⟨⟨fun n hn => ?_, ?_, ?_⟩, (show 1 ≤ 60 by decide)⟩
    · rw [List.mem_singleton.mp hn]
      exact ⟨h1, h2, hw, al, a.g⟩
    · show 1 + szs _ + 0 ≤ S + (t + 1)
      have := a.s
      omega
    · show 20 + 100 * ws.length + ((tsW ws b t).map (ndW (k + t))).sum + 0 ≤ W + (t + 1) * 6020
      have := a.w
      omega
theorem great_dr {mk nu : List Bx} (hn : mk.length + nu.length ≤ 5) (hm : mk.length ≤ 3) (s : Bs) : Dr mk nu 10 0 69 1000000 (greatF mk nu.length s).1 ∧ (greatF mk nu.length s).1.length ≤ 60 := by
  obtain ⟨a, al⟩ := gt_dr hn s mk.length (Nat.le_refl _)
  rw [Nat.sub_self] at a
  have hw := wish_all hn 0 (gtF mk nu.length s mk.length).2
  obtain ⟨b, bl⟩ := ts_dr (mk := mk) (nu := nu) (ws := List.replicate 60 (gtW mk nu.length s).1) (by rw [List.length_replicate]; decide) (by rw [List.length_replicate]; decide) (fun w h => by rw [(List.mem_replicate.mp h).2]; exact hw) a al (9 - mk.length)
  have e : mk.length + 1 + (9 - mk.length) = 10 := by omega
  rw [e] at b
  refine ⟨⟨b.g, Nat.le_trans b.s (by omega), Nat.le_trans b.w ?_⟩, bl⟩
  have h1 : mk.length * 240280 ≤ 3 * 240280 := Nat.mul_le_mul_right _ hm
  have h2 : (9 - mk.length) * 6020 ≤ 9 * 6020 := Nat.mul_le_mul_right _ (by omega)
  omega
theorem plain (s : Bs) : RowOk (sfMk s).1 (sfNu s).1 (tnP s).1 := by
  obtain ⟨m1, m2, m3⟩ := mn_len s
  obtain ⟨d1, d2, d3⟩ := tn_d s
  have fr := frame_ok s
  unfold tnP
  split
  · obtain ⟨a, al⟩ := great_dr m1 m2 (tnN s).2
    exact row_ok fr (Nat.le_refl 10) a.g al (Nat.le_trans a.s (by decide)) a.w
  · obtain ⟨a, al⟩ := nodes_dr m1 (tnD s) 0 (tn2 s).2 (Nat.zero_le _)
    have hB := bB_le (tnD s) d2
    exact row_ok fr (k := tnD s) (by omega) a.g al (Nat.le_trans a.s (by omega)) (Nat.le_trans a.w (by omega))
end H

set_option Elab.async false
set_option linter.all false
set_option maxRecDepth 100000
set_option maxHeartbeats 0
namespace H
open PySem PySem.Spec PyProof.Rows L2 PR
theorem top_of {K : PySem.W.Frag} {h : Heap} {mg : Str → Option Value} (X : K.In h) (G : h.Ns mainGlobals mg) (e : obsF K = valF) : Top K mg := by
  obtain ⟨e1, e2⟩ := says_of e
  exact ⟨e1, e2, h, X, G⟩
theorem sqs_of {K : PySem.W.Frag} {H : Hp} {a : Addr} {xs : List V} (h : SqL K H a xs) (o : Only H) : SqS K H a xs := by
  rcases h with (h | ⟨q, h⟩) | h
  · rcases o a with z | ⟨u, ys, z⟩
    · rw [z] at h
      cases h
    · rw [z] at h
      cases h
  · exact .inl ⟨q, h⟩
  · exact .inr h
end H
open PySem PySem.W PySem.Calls PyProof.Rows
theorem PySem.Challenge.cw_pointrounds_k61_programs_told_holds : PySem.Challenge.rw_pointrounds_k61_programs_told.Holds := by
  w_on; o_law
  refine HandSHeadRun.head_any (r := OpenLaw.row PySem.Challenge.rw_pointrounds_k61_programs_told) (q := view (OpenLaw.row PySem.Challenge.rw_pointrounds_k61_programs_told).prog [80]) (H := H.hkA H.ads H.obsF H.valF) (ob := H.obA H.ads H.obsF) (M := 20000) (loose := H.names) (d := HandSHeadRun.topDef (OpenLaw.row PySem.Challenge.rw_pointrounds_k61_programs_told).prog 80) (kwd := []) (fun s => H.obA_eq H.ads H.obsF H.valF s)
    (by kernel_rfl) (fun s => by kernel_rfl) H.runAll (by kernel_rfl) (by kernel_rfl) (by kernel_rfl) (by rfl) (by first | assumption | decide +kernel) (by decide +kernel) ⟨rfl, rfl, rfl, rfl, rfl, by decide +kernel⟩ ?hw ?hc
  case hw => w_witness2
  case hc =>
    refine PR.walk_gn (l := PySem.Challenge.rw_pointrounds_k61_programs_told) (n := 63) (k := 45) (x := "_law_script") rfl (by decide) (by kernel_rfl) ⟨rfl, by decide, by decide⟩ ?F
    intro w mg fa h Y G hmg0
    obtain ⟨K, KX, c⟩ := Y
    have T := H.top_of KX G c
    have hmg : mg ("law" : PySem.Str) = some (.ref fa) := by
      have e : (HandSHeadRun.topDef (OpenLaw.row PySem.Challenge.rw_pointrounds_k61_programs_told).prog 80).name = ("law" : PySem.Str) := by kernel_rfl
      rw [← e]
      exact hmg0
    have e := hmg.symm.trans (H.g_law T)
    cases e
    obtain ⟨fd, F⟩ := H.F_law T
    have b := L2.FunD.bindsA (ps := ["_law_script"]) F fun _ _ _ _ _ _ us hl => match us, hl with | [_], _ => rfl
    refine ⟨K, fd, PR.toSp K (H.sp_law K), KX, fun s v => b s [v] rfl, fun Hh a ns hl ho hS => ?_, fun base _ _ => H.gk_law T F⟩
    exact ⟨[.scr ns], fun _ => none, .cons (.scr (H.sqs_of hS ho)) .nil, (fun _ _ q => by cases q), ⟨ns, rfl, hl, H.plain, fun M' v H' _ _ z => by cases z; rfl⟩⟩

