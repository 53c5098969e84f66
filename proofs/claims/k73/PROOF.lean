import PyProof.Rows.All
import Wide.All
import OpenK.AllK
import Wide.FinOn
import KE.KStateDown
import HandS.ForMost
import HandS.WordsExc
import HandS.Defaults
import Lean
import HandS.Head0
import HandS.Head1
import HandS.Head2
import HandS.HeadEnd
import HandS.HeadHook1
import HandS.HeadHook2
import HandS.HeadHook3
import HandS.HeadHook4
import KE.KeyNested
import KE.KDictKeyed
import HandS.FStr
import HandS.Small
import HandS.Star
import HandS.IsInst
import HandS.Deep
import HandS.More
import HandS.NoneIn
import HandS.Zip
import HandS.Style
import HandS.TupAny
import HandS.Wide
import KE.KUnpackStar
import PyProof.ReprRoads
import KE.LtData
import KE.KDictList
import KE.KDictOf
import KE.SortData
import KE.KDictSum
import PySem.Challenge.RW_speedwise_k73_texts_of_questions_there_a
set_option Elab.async false
set_option linter.all false
set_option maxRecDepth 100000
set_option maxHeartbeats 2000000
namespace K73
open PySem PySem.Spec PyProof.Rows L2
def top (i : Nat) : Stmt := PySem.Challenge.pw_speedwise_k73_texts_of_questions_there_a.main.body.getD i (.Pass ⟨0, 0, 0, 0⟩)
abbrev s__wall : Stmt := top 0
abbrev s_is_integer : Stmt := top 2
abbrev s_common_divisor : Stmt := top 3
abbrev s_is_number : Stmt := top 4
abbrev s_top_of : Stmt := top 5
abbrev s_bottom_of : Stmt := top 6
abbrev s_is_less : Stmt := top 7
abbrev s_show_number : Stmt := top 8
abbrev s_InvalidText_init : Stmt := inClass (top 11) 0
abbrev s_NoProgram_init : Stmt := inClass (top 12) 0
abbrev s_is_box : Stmt := top 15
abbrev s_is_integer_from : Stmt := top 19
abbrev s_is_event_name : Stmt := top 20
abbrev s_show_name : Stmt := top 21
abbrev s_is_digits : Stmt := top 22
abbrev s_read_name : Stmt := top 23
abbrev s_are_pairs : Stmt := top 25
abbrev s_is_between : Stmt := top 31
abbrev s_is_in_range : Stmt := top 32
abbrev s_is_name : Stmt := top 33
abbrev s_is_one_of : Stmt := top 34
abbrev s_is_expression : Stmt := top 35
abbrev s_is_measure : Stmt := top 38
abbrev s_show_expression : Stmt := top 44
abbrev s_LineReader_init : Stmt := inClass (top 45) 0
abbrev s_LineReader_starts : Stmt := inClass (top 45) 1
abbrev s_LineReader_take : Stmt := inClass (top 45) 2
abbrev s_LineReader_take_one : Stmt := inClass (top 45) 3
abbrev s_LineReader_take_run : Stmt := inClass (top 45) 4
abbrev s_LineReader_take_end : Stmt := inClass (top 45) 5
abbrev s_LineReader_take_name : Stmt := inClass (top 45) 6
abbrev s_LineReader_take_integer : Stmt := inClass (top 45) 7
abbrev s_LineReader_take_expression : Stmt := inClass (top 45) 8
abbrev s_LineReader_take_pair : Stmt := inClass (top 45) 9
abbrev s_LineReader_take_condition : Stmt := inClass (top 45) 10
abbrev s_LineReader_take_given : Stmt := inClass (top 45) 11
abbrev s_is_index : Stmt := top 49
abbrev s_is_ends : Stmt := top 50
abbrev s_is_emits : Stmt := top 51
abbrev s_is_within : Stmt := top 52
abbrev s_is_requirement : Stmt := top 53
abbrev s_is_sight : Stmt := top 59
abbrev s_must : Stmt := top 68
abbrev s_whole_in : Stmt := top 69
abbrev s_number_in : Stmt := top 70
abbrev s_name_in : Stmt := top 71
abbrev s_show_part : Stmt := top 72
abbrev s_parts_of : Stmt := top 73
abbrev s_show_requirement : Stmt := top 74
abbrev s_part_in : Stmt := top 75
abbrev s_expression_in : Stmt := top 76
abbrev s_read_requirement : Stmt := top 77
abbrev s_show_sight : Stmt := top 78
abbrev s_read_sight : Stmt := top 79
abbrev s_show_measure : Stmt := top 80
abbrev s_read_measure : Stmt := top 81
abbrev s_show_box : Stmt := top 82
abbrev s_read_box : Stmt := top 83
abbrev s__law_deck : Stmt := top 85
abbrev s__law_draw : Stmt := top 86
abbrev s__law_pick : Stmt := top 87
abbrev s__law_same : Stmt := top 88
abbrev s__law_program : Stmt := top 89
abbrev s__law_number : Stmt := top 90
abbrev s__law_shown : Stmt := top 91
abbrev s__law_expression : Stmt := top 92
abbrev s__law_written : Stmt := top 93
abbrev s__law_name : Stmt := top 94
abbrev s__law_event : Stmt := top 95
abbrev s__law_part : Stmt := top 96
abbrev s__law_requirement : Stmt := top 97
abbrev s__law_flat : Stmt := top 98
abbrev s__law_part_text : Stmt := top 99
abbrev s__law_requirement_text : Stmt := top 100
abbrev s__law_read_back : Stmt := top 101
abbrev s__law_sight : Stmt := top 102
abbrev s__law_sight_text : Stmt := top 103
abbrev s__law_less : Stmt := top 104
abbrev s__law_measure : Stmt := top 105
abbrev s__law_measure_text : Stmt := top 106
abbrev s__law_box : Stmt := top 107
abbrev s__law_box_text : Stmt := top 108
abbrev s__law_is_requirement_right : Stmt := top 109
abbrev s__law_is_box_right : Stmt := top 110
abbrev s_law : Stmt := top 111
end K73

set_option maxHeartbeats 0
namespace K73
open PySem PySem.Spec PyProof.Rows L2

def d__wall : He.DefD := ⟨("_wall", none), "_wall", "_wall", defArgs s__wall, defBody s__wall, defScope s__wall, [], []⟩
def d_is_integer : He.DefD := ⟨("is_integer", none), "is_integer", "is_integer", defArgs s_is_integer, defBody s_is_integer, defScope s_is_integer, [], []⟩
def d_common_divisor : He.DefD := ⟨("common_divisor", none), "common_divisor", "common_divisor", defArgs s_common_divisor, defBody s_common_divisor, defScope s_common_divisor, [], []⟩
def d_is_number : He.DefD := ⟨("is_number", none), "is_number", "is_number", defArgs s_is_number, defBody s_is_number, defScope s_is_number, [], []⟩
def d_top_of : He.DefD := ⟨("top_of", none), "top_of", "top_of", defArgs s_top_of, defBody s_top_of, defScope s_top_of, [], []⟩
def d_bottom_of : He.DefD := ⟨("bottom_of", none), "bottom_of", "bottom_of", defArgs s_bottom_of, defBody s_bottom_of, defScope s_bottom_of, [], []⟩
def d_is_less : He.DefD := ⟨("is_less", none), "is_less", "is_less", defArgs s_is_less, defBody s_is_less, defScope s_is_less, [], []⟩
def d_show_number : He.DefD := ⟨("show_number", none), "show_number", "show_number", defArgs s_show_number, defBody s_show_number, defScope s_show_number, [], []⟩
def d_InvalidText_init : He.DefD := ⟨("InvalidText", some "__init__"), "__init__", "InvalidText.__init__", defArgs s_InvalidText_init, defBody s_InvalidText_init, defScope s_InvalidText_init, [], []⟩
def d_NoProgram_init : He.DefD := ⟨("NoProgram", some "__init__"), "__init__", "NoProgram.__init__", defArgs s_NoProgram_init, defBody s_NoProgram_init, defScope s_NoProgram_init, [], []⟩
def d_is_box : He.DefD := ⟨("is_box", none), "is_box", "is_box", defArgs s_is_box, defBody s_is_box, defScope s_is_box, [], []⟩
def d_is_integer_from : He.DefD := ⟨("is_integer_from", none), "is_integer_from", "is_integer_from", defArgs s_is_integer_from, defBody s_is_integer_from, defScope s_is_integer_from, [], []⟩
def d_is_event_name : He.DefD := ⟨("is_event_name", none), "is_event_name", "is_event_name", defArgs s_is_event_name, defBody s_is_event_name, defScope s_is_event_name, [], []⟩
def d_show_name : He.DefD := ⟨("show_name", none), "show_name", "show_name", defArgs s_show_name, defBody s_show_name, defScope s_show_name, [], []⟩
def d_is_digits : He.DefD := ⟨("is_digits", none), "is_digits", "is_digits", defArgs s_is_digits, defBody s_is_digits, defScope s_is_digits, [], []⟩
def d_read_name : He.DefD := ⟨("read_name", none), "read_name", "read_name", defArgs s_read_name, defBody s_read_name, defScope s_read_name, [], []⟩
def d_are_pairs : He.DefD := ⟨("are_pairs", none), "are_pairs", "are_pairs", defArgs s_are_pairs, defBody s_are_pairs, defScope s_are_pairs, [], []⟩
def d_is_between : He.DefD := ⟨("is_between", none), "is_between", "is_between", defArgs s_is_between, defBody s_is_between, defScope s_is_between, [], []⟩
def d_is_in_range : He.DefD := ⟨("is_in_range", none), "is_in_range", "is_in_range", defArgs s_is_in_range, defBody s_is_in_range, defScope s_is_in_range, [], []⟩
def d_is_name : He.DefD := ⟨("is_name", none), "is_name", "is_name", defArgs s_is_name, defBody s_is_name, defScope s_is_name, [], []⟩
def d_is_one_of : He.DefD := ⟨("is_one_of", none), "is_one_of", "is_one_of", defArgs s_is_one_of, defBody s_is_one_of, defScope s_is_one_of, [], []⟩
def d_is_expression : He.DefD := ⟨("is_expression", none), "is_expression", "is_expression", defArgs s_is_expression, defBody s_is_expression, defScope s_is_expression, [.int 4], []⟩
def d_is_measure : He.DefD := ⟨("is_measure", none), "is_measure", "is_measure", defArgs s_is_measure, defBody s_is_measure, defScope s_is_measure, [], []⟩
def d_show_expression : He.DefD := ⟨("show_expression", none), "show_expression", "show_expression", defArgs s_show_expression, defBody s_show_expression, defScope s_show_expression, [], []⟩
def d_LineReader_init : He.DefD := ⟨("LineReader", some "__init__"), "__init__", "LineReader.__init__", defArgs s_LineReader_init, defBody s_LineReader_init, defScope s_LineReader_init, [], []⟩
def d_LineReader_starts : He.DefD := ⟨("LineReader", some "starts"), "starts", "LineReader.starts", defArgs s_LineReader_starts, defBody s_LineReader_starts, defScope s_LineReader_starts, [], []⟩
def d_LineReader_take : He.DefD := ⟨("LineReader", some "take"), "take", "LineReader.take", defArgs s_LineReader_take, defBody s_LineReader_take, defScope s_LineReader_take, [], []⟩
def d_LineReader_take_one : He.DefD := ⟨("LineReader", some "take_one"), "take_one", "LineReader.take_one", defArgs s_LineReader_take_one, defBody s_LineReader_take_one, defScope s_LineReader_take_one, [], []⟩
def d_LineReader_take_run : He.DefD := ⟨("LineReader", some "take_run"), "take_run", "LineReader.take_run", defArgs s_LineReader_take_run, defBody s_LineReader_take_run, defScope s_LineReader_take_run, [], []⟩
def d_LineReader_take_end : He.DefD := ⟨("LineReader", some "take_end"), "take_end", "LineReader.take_end", defArgs s_LineReader_take_end, defBody s_LineReader_take_end, defScope s_LineReader_take_end, [], []⟩
def d_LineReader_take_name : He.DefD := ⟨("LineReader", some "take_name"), "take_name", "LineReader.take_name", defArgs s_LineReader_take_name, defBody s_LineReader_take_name, defScope s_LineReader_take_name, [], []⟩
def d_LineReader_take_integer : He.DefD := ⟨("LineReader", some "take_integer"), "take_integer", "LineReader.take_integer", defArgs s_LineReader_take_integer, defBody s_LineReader_take_integer, defScope s_LineReader_take_integer, [], []⟩
def d_LineReader_take_expression : He.DefD := ⟨("LineReader", some "take_expression"), "take_expression", "LineReader.take_expression", defArgs s_LineReader_take_expression, defBody s_LineReader_take_expression, defScope s_LineReader_take_expression, [], []⟩
def d_LineReader_take_pair : He.DefD := ⟨("LineReader", some "take_pair"), "take_pair", "LineReader.take_pair", defArgs s_LineReader_take_pair, defBody s_LineReader_take_pair, defScope s_LineReader_take_pair, [], []⟩
def d_LineReader_take_condition : He.DefD := ⟨("LineReader", some "take_condition"), "take_condition", "LineReader.take_condition", defArgs s_LineReader_take_condition, defBody s_LineReader_take_condition, defScope s_LineReader_take_condition, [], []⟩
def d_LineReader_take_given : He.DefD := ⟨("LineReader", some "take_given"), "take_given", "LineReader.take_given", defArgs s_LineReader_take_given, defBody s_LineReader_take_given, defScope s_LineReader_take_given, [], []⟩
def d_is_index : He.DefD := ⟨("is_index", none), "is_index", "is_index", defArgs s_is_index, defBody s_is_index, defScope s_is_index, [], []⟩
def d_is_ends : He.DefD := ⟨("is_ends", none), "is_ends", "is_ends", defArgs s_is_ends, defBody s_is_ends, defScope s_is_ends, [], []⟩
def d_is_emits : He.DefD := ⟨("is_emits", none), "is_emits", "is_emits", defArgs s_is_emits, defBody s_is_emits, defScope s_is_emits, [], []⟩
def d_is_within : He.DefD := ⟨("is_within", none), "is_within", "is_within", defArgs s_is_within, defBody s_is_within, defScope s_is_within, [], []⟩
def d_is_requirement : He.DefD := ⟨("is_requirement", none), "is_requirement", "is_requirement", defArgs s_is_requirement, defBody s_is_requirement, defScope s_is_requirement, [], []⟩
def d_is_sight : He.DefD := ⟨("is_sight", none), "is_sight", "is_sight", defArgs s_is_sight, defBody s_is_sight, defScope s_is_sight, [], []⟩
def d_must : He.DefD := ⟨("must", none), "must", "must", defArgs s_must, defBody s_must, defScope s_must, [], []⟩
def d_whole_in : He.DefD := ⟨("whole_in", none), "whole_in", "whole_in", defArgs s_whole_in, defBody s_whole_in, defScope s_whole_in, [], []⟩
def d_number_in : He.DefD := ⟨("number_in", none), "number_in", "number_in", defArgs s_number_in, defBody s_number_in, defScope s_number_in, [], []⟩
def d_name_in : He.DefD := ⟨("name_in", none), "name_in", "name_in", defArgs s_name_in, defBody s_name_in, defScope s_name_in, [], []⟩
def d_show_part : He.DefD := ⟨("show_part", none), "show_part", "show_part", defArgs s_show_part, defBody s_show_part, defScope s_show_part, [], []⟩
def d_parts_of : He.DefD := ⟨("parts_of", none), "parts_of", "parts_of", defArgs s_parts_of, defBody s_parts_of, defScope s_parts_of, [], []⟩
def d_show_requirement : He.DefD := ⟨("show_requirement", none), "show_requirement", "show_requirement", defArgs s_show_requirement, defBody s_show_requirement, defScope s_show_requirement, [], []⟩
def d_part_in : He.DefD := ⟨("part_in", none), "part_in", "part_in", defArgs s_part_in, defBody s_part_in, defScope s_part_in, [], []⟩
def d_expression_in : He.DefD := ⟨("expression_in", none), "expression_in", "expression_in", defArgs s_expression_in, defBody s_expression_in, defScope s_expression_in, [], []⟩
def d_read_requirement : He.DefD := ⟨("read_requirement", none), "read_requirement", "read_requirement", defArgs s_read_requirement, defBody s_read_requirement, defScope s_read_requirement, [], []⟩
def d_show_sight : He.DefD := ⟨("show_sight", none), "show_sight", "show_sight", defArgs s_show_sight, defBody s_show_sight, defScope s_show_sight, [], []⟩
def d_read_sight : He.DefD := ⟨("read_sight", none), "read_sight", "read_sight", defArgs s_read_sight, defBody s_read_sight, defScope s_read_sight, [], []⟩
def d_show_measure : He.DefD := ⟨("show_measure", none), "show_measure", "show_measure", defArgs s_show_measure, defBody s_show_measure, defScope s_show_measure, [], []⟩
def d_read_measure : He.DefD := ⟨("read_measure", none), "read_measure", "read_measure", defArgs s_read_measure, defBody s_read_measure, defScope s_read_measure, [], []⟩
def d_show_box : He.DefD := ⟨("show_box", none), "show_box", "show_box", defArgs s_show_box, defBody s_show_box, defScope s_show_box, [], []⟩
def d_read_box : He.DefD := ⟨("read_box", none), "read_box", "read_box", defArgs s_read_box, defBody s_read_box, defScope s_read_box, [], []⟩
def d__law_deck : He.DefD := ⟨("_law_deck", none), "_law_deck", "_law_deck", defArgs s__law_deck, defBody s__law_deck, defScope s__law_deck, [], []⟩
def d__law_draw : He.DefD := ⟨("_law_draw", none), "_law_draw", "_law_draw", defArgs s__law_draw, defBody s__law_draw, defScope s__law_draw, [], []⟩
def d__law_pick : He.DefD := ⟨("_law_pick", none), "_law_pick", "_law_pick", defArgs s__law_pick, defBody s__law_pick, defScope s__law_pick, [], []⟩
def d__law_same : He.DefD := ⟨("_law_same", none), "_law_same", "_law_same", defArgs s__law_same, defBody s__law_same, defScope s__law_same, [], []⟩
def d__law_program : He.DefD := ⟨("_law_program", none), "_law_program", "_law_program", defArgs s__law_program, defBody s__law_program, defScope s__law_program, [], []⟩
def d__law_number : He.DefD := ⟨("_law_number", none), "_law_number", "_law_number", defArgs s__law_number, defBody s__law_number, defScope s__law_number, [], []⟩
def d__law_shown : He.DefD := ⟨("_law_shown", none), "_law_shown", "_law_shown", defArgs s__law_shown, defBody s__law_shown, defScope s__law_shown, [], []⟩
def d__law_expression : He.DefD := ⟨("_law_expression", none), "_law_expression", "_law_expression", defArgs s__law_expression, defBody s__law_expression, defScope s__law_expression, [], []⟩
def d__law_written : He.DefD := ⟨("_law_written", none), "_law_written", "_law_written", defArgs s__law_written, defBody s__law_written, defScope s__law_written, [], []⟩
def d__law_name : He.DefD := ⟨("_law_name", none), "_law_name", "_law_name", defArgs s__law_name, defBody s__law_name, defScope s__law_name, [], []⟩
def d__law_event : He.DefD := ⟨("_law_event", none), "_law_event", "_law_event", defArgs s__law_event, defBody s__law_event, defScope s__law_event, [], []⟩
def d__law_part : He.DefD := ⟨("_law_part", none), "_law_part", "_law_part", defArgs s__law_part, defBody s__law_part, defScope s__law_part, [], []⟩
def d__law_requirement : He.DefD := ⟨("_law_requirement", none), "_law_requirement", "_law_requirement", defArgs s__law_requirement, defBody s__law_requirement, defScope s__law_requirement, [], []⟩
def d__law_flat : He.DefD := ⟨("_law_flat", none), "_law_flat", "_law_flat", defArgs s__law_flat, defBody s__law_flat, defScope s__law_flat, [], []⟩
def d__law_part_text : He.DefD := ⟨("_law_part_text", none), "_law_part_text", "_law_part_text", defArgs s__law_part_text, defBody s__law_part_text, defScope s__law_part_text, [], []⟩
def d__law_requirement_text : He.DefD := ⟨("_law_requirement_text", none), "_law_requirement_text", "_law_requirement_text", defArgs s__law_requirement_text, defBody s__law_requirement_text, defScope s__law_requirement_text, [], []⟩
def d__law_read_back : He.DefD := ⟨("_law_read_back", none), "_law_read_back", "_law_read_back", defArgs s__law_read_back, defBody s__law_read_back, defScope s__law_read_back, [], []⟩
def d__law_sight : He.DefD := ⟨("_law_sight", none), "_law_sight", "_law_sight", defArgs s__law_sight, defBody s__law_sight, defScope s__law_sight, [], []⟩
def d__law_sight_text : He.DefD := ⟨("_law_sight_text", none), "_law_sight_text", "_law_sight_text", defArgs s__law_sight_text, defBody s__law_sight_text, defScope s__law_sight_text, [], []⟩
def d__law_less : He.DefD := ⟨("_law_less", none), "_law_less", "_law_less", defArgs s__law_less, defBody s__law_less, defScope s__law_less, [], []⟩
def d__law_measure : He.DefD := ⟨("_law_measure", none), "_law_measure", "_law_measure", defArgs s__law_measure, defBody s__law_measure, defScope s__law_measure, [], []⟩
def d__law_measure_text : He.DefD := ⟨("_law_measure_text", none), "_law_measure_text", "_law_measure_text", defArgs s__law_measure_text, defBody s__law_measure_text, defScope s__law_measure_text, [], []⟩
def d__law_box : He.DefD := ⟨("_law_box", none), "_law_box", "_law_box", defArgs s__law_box, defBody s__law_box, defScope s__law_box, [], []⟩
def d__law_box_text : He.DefD := ⟨("_law_box_text", none), "_law_box_text", "_law_box_text", defArgs s__law_box_text, defBody s__law_box_text, defScope s__law_box_text, [], []⟩
def d__law_is_requirement_right : He.DefD := ⟨("_law_is_requirement_right", none), "_law_is_requirement_right", "_law_is_requirement_right", defArgs s__law_is_requirement_right, defBody s__law_is_requirement_right, defScope s__law_is_requirement_right, [], []⟩
def d__law_is_box_right : He.DefD := ⟨("_law_is_box_right", none), "_law_is_box_right", "_law_is_box_right", defArgs s__law_is_box_right, defBody s__law_is_box_right, defScope s__law_is_box_right, [], []⟩
def d_law : He.DefD := ⟨("law", none), "law", "law", defArgs s_law, defBody s_law, defScope s_law, [], []⟩
def fn0 : List He.DefD := [d__wall, d_is_integer, d_common_divisor, d_is_number, d_top_of, d_bottom_of, d_is_less, d_show_number, d_is_box, d_is_integer_from, d_is_event_name, d_show_name, d_is_digits, d_read_name, d_are_pairs, d_is_between, d_is_in_range, d_is_name, d_is_one_of, d_is_expression, d_is_measure, d_show_expression, d_LineReader_init, d_LineReader_starts, d_LineReader_take, d_LineReader_take_one, d_LineReader_take_run, d_LineReader_take_end, d_LineReader_take_name, d_LineReader_take_integer]
def fn1 : List He.DefD := [d_LineReader_take_expression, d_LineReader_take_pair, d_LineReader_take_condition, d_LineReader_take_given, d_is_index, d_is_ends, d_is_emits, d_is_within, d_is_requirement, d_is_sight, d_must, d_whole_in, d_number_in, d_name_in, d_show_part, d_parts_of, d_show_requirement, d_part_in, d_expression_in, d_read_requirement, d_show_sight, d_read_sight, d_show_measure, d_read_measure, d_show_box, d_read_box, d__law_deck, d__law_draw, d__law_pick, d__law_same]
def fn2 : List He.DefD := [d__law_program, d__law_number, d__law_shown, d__law_expression, d__law_written, d__law_name, d__law_event, d__law_part, d__law_requirement, d__law_flat, d__law_part_text, d__law_requirement_text, d__law_read_back, d__law_sight, d__law_sight_text, d__law_less, d__law_measure, d__law_measure_text, d__law_box, d__law_box_text, d__law_is_requirement_right, d__law_is_box_right, d_law]
def fn : List He.DefD := fn0 ++ fn1 ++ fn2
def fa0 : List He.Fa := [.glo "_wall", .glo "is_integer", .glo "common_divisor", .glo "is_number", .glo "top_of", .glo "bottom_of", .glo "is_less", .glo "show_number", .glo "SpeedError", .glo "InvalidText", .glo "NoProgram", .int "BOX_PARTS" 3, .glo "is_box", .glo "KINDS", .str "DIGITS_eventnames" "0123456789", .glo "is_integer_from", .glo "is_event_name", .glo "show_name", .glo "is_digits", .glo "read_name", .glo "are_pairs", .str "LETTERS" "abcdefghijklmnopqrstuvwxyz", .int "LONGEST_NAME" 8, .int "FARTHEST" 1000000, .int "MOST_LEVELS" 4, .glo "is_between", .glo "is_in_range", .glo "is_name", .glo "is_one_of", .glo "is_expression"]
def fa1 : List He.Fa := [.int "MOST_PARTS" 4, .glo "is_measure", .str "DIGITS_programtexts" "0123456789", .int "MOST_DIGITS" 7, .int "MOST_PARENTHESES" 60, .glo "SIGNS", .glo "show_expression", .glo "LineReader", .cls "LineReader", .mkr "LineReader", .noat "LineReader" "number_of_line", .noat "LineReader" "line_text", .noat "LineReader" "place", .meth "LineReader" "starts", .meth "LineReader" "take", .meth "LineReader" "take_one", .meth "LineReader" "take_run", .meth "LineReader" "take_end", .meth "LineReader" "take_name", .meth "LineReader" "take_integer", .meth "LineReader" "take_expression", .meth "LineReader" "take_pair", .meth "LineReader" "take_condition", .meth "LineReader" "take_given", .int "LEVELS" 2, .glo "ALONE", .glo "is_index", .glo "is_ends", .glo "is_emits", .glo "is_within"]
def fa2 : List He.Fa := [.glo "is_requirement", .str "TIME" "time", .str "COMES" "comes", .str "LATER" "later", .str "EMITS" "emits", .glo "is_sight", .str "SPACE" " ", .str "COMMA" ",", .str "COLON" ":", .str "EQUALS" "=", .str "AND" "; ", .str "TIMES" "*", .int "MOST_FIGURES" 40, .glo "must", .glo "whole_in", .glo "number_in", .glo "name_in", .glo "show_part", .glo "parts_of", .glo "show_requirement", .glo "part_in", .glo "expression_in", .glo "read_requirement", .glo "show_sight", .glo "read_sight", .glo "show_measure", .glo "read_measure", .glo "show_box", .glo "read_box", .glo "_law_deck"]
def fa3 : List He.Fa := [.glo "_law_draw", .glo "_law_pick", .glo "_law_same", .glo "_law_program", .glo "_law_number", .glo "_law_shown", .glo "_law_expression", .glo "_law_written", .glo "_law_name", .glo "_law_event", .glo "_law_part", .glo "_law_requirement", .glo "_law_flat", .glo "_law_part_text", .glo "_law_requirement_text", .glo "_law_read_back", .glo "_law_sight", .glo "_law_sight_text", .glo "_law_less", .glo "_law_measure", .glo "_law_measure_text", .glo "_law_box", .glo "_law_box_text", .glo "_law_is_requirement_right", .glo "_law_is_box_right", .glo "law", .free "Exception", .free "abs", .free "all", .free "bool"]
def fa4 : List He.Fa := [.free "dict", .free "int", .free "isinstance", .free "len", .free "list", .free "max", .free "range", .free "repr", .free "sorted", .free "str", .free "super", .free "tuple", .free "zip"]
def fa : List He.Fa := fa0 ++ fa1 ++ fa2 ++ fa3 ++ fa4
def loose0 : List Str := ["_wall", "__name__", "is_integer", "common_divisor", "is_number", "top_of", "bottom_of", "is_less", "show_number", "SpeedError", "InvalidText", "NoProgram", "BOX_PARTS", "is_box", "KINDS", "DIGITS_eventnames", "is_integer_from", "is_event_name", "show_name", "is_digits", "read_name", "are_pairs", "LETTERS", "LONGEST_NAME", "FARTHEST", "MOST_LEVELS", "is_between", "is_in_range", "is_name", "is_one_of"]
def loose1 : List Str := ["is_expression", "MOST_PARTS", "is_measure", "DIGITS_programtexts", "MOST_DIGITS", "MOST_PARENTHESES", "SIGNS", "show_expression", "LineReader", "LEVELS", "ALONE", "is_index", "is_ends", "is_emits", "is_within", "is_requirement", "TIME", "COMES", "LATER", "EMITS", "is_sight", "SPACE", "COMMA", "COLON", "EQUALS", "AND", "TIMES", "MOST_FIGURES", "must", "whole_in"]
def loose2 : List Str := ["number_in", "name_in", "show_part", "parts_of", "show_requirement", "part_in", "expression_in", "read_requirement", "show_sight", "read_sight", "show_measure", "read_measure", "show_box", "read_box", "_law_deck", "_law_draw", "_law_pick", "_law_same", "_law_program", "_law_number", "_law_shown", "_law_expression", "_law_written", "_law_name", "_law_event", "_law_part", "_law_requirement", "_law_flat", "_law_part_text", "_law_requirement_text"]
def loose3 : List Str := ["_law_read_back", "_law_sight", "_law_sight_text", "_law_less", "_law_measure", "_law_measure_text", "_law_box", "_law_box_text", "_law_is_requirement_right", "_law_is_box_right"]
def loose : List Str := loose0 ++ loose1 ++ loose2 ++ loose3
def ts : List He.Tab := [(fun K => He.ga K "SIGNS", ["plus", "minus", "times"])]
def ex (K : PySem.W.Frag) : Bool := He.valsB K (He.ga K "SIGNS") [("plus", .str " + "), ("minus", .str " - "), ("times", .str " * ")] &&
  (He.tupB K "KINDS" [.str "start", .str "step", .str "done", .str "timer", .str "finish"] && He.tupB K "ALONE" [.str "unblocked", .str "faultless"])
abbrev R : PySem.W.OpenRow := PySem.W.OpenLaw.row PySem.Challenge.rw_speedwise_k73_texts_of_questions_there_a
abbrev hk : PySem.W.Hook := He.hookX 4 fa fn ts [] ex
def ob (s : PySem.W.SharedT) : He.AlX := He.obsX 4 fa fn ts [] ex (HandSHeadRun.getT s)
theorem ob_eq (s : PySem.W.SharedT) : ob s = hk.obs s.abs := He.obsX_eq (HandSHeadRun.getT_eq s)
end K73

set_option maxHeartbeats 0
namespace K73
open PySem PySem.Spec PyProof.Rows L2
/-! the top's run, looked at in parts (each look a declaration of its own: less memory at once) -/
/-- the state behind the top -/
noncomputable abbrev endS (w : World) (os : PySem.OsState) : Option PySem.W.SharedT := HandSHeadRun.endF (HandSHeadRun.stepQ (HandSHeadRun.denQ HandSHeadRun.tabQ) R.prog w) 20000 R.prog w os
noncomputable abbrev lookA (w : World) (s : PySem.W.SharedT) := (HandSHeadRun.looksF R.prog (PySem.W.boot_heap w.params) s.abs, HandSHeadRun.seenQ (PySem.W.view R.prog [111]) loose (PySem.importedModules R.prog.main.body) (fun s => PySem.W.xlAt (PySem.W.view R.prog [111]) [] s && PySem.W.recOk R.toRowW.records s) s.abs)
abbrev obB (s : PySem.W.SharedT) : He.AlX := He.obsX 4 fa (fn.take 30) ts [] ex (HandSHeadRun.getT s)
abbrev obC (s : PySem.W.SharedT) : He.AlX := He.obsX 4 [] (fn.drop 30) [] [] (fun _ => true) (HandSHeadRun.getT s)
def RunA (w : World) : Prop := ∀ os : PySem.OsState, (endS w os).map (lookA w) = some (true, PySem.W.openGood (PySem.W.view R.prog [111]) loose)
def RunB (w : World) : Prop := ∀ os : PySem.OsState, (endS w os).map obB = some (He.valX (fn.take 30) ts w)
def RunC (w : World) : Prop := ∀ os : PySem.OsState, (endS w os).map obC = some (He.valX (fn.drop 30) [] w)
theorem runA0 (w : World) : RunA (w.withFollow "special-get-raises" false) := by
  intro os
  kernel_rfl
theorem runA1 (w : World) : RunA (w.withFollow "special-get-raises" true) := by
  intro os
  kernel_rfl
theorem runB0 (w : World) : RunB (w.withFollow "special-get-raises" false) := by
  intro os
  kernel_rfl
theorem runB1 (w : World) : RunB (w.withFollow "special-get-raises" true) := by
  intro os
  kernel_rfl
theorem runC0 (w : World) : RunC (w.withFollow "special-get-raises" false) := by
  intro os
  kernel_rfl
theorem runC1 (w : World) : RunC (w.withFollow "special-get-raises" true) := by
  intro os
  kernel_rfl
theorem joinX {n : Nat} {fa : List He.Fa} {f1 f2 : List He.DefD} {ts : List He.Tab} {ex : PySem.W.Frag → Bool} {w : World} {g : Addr → Option Obj}
    (h1 : He.obsX n fa f1 ts [] ex g = He.valX f1 ts w) (h2 : He.obsX n [] f2 [] [] (fun _ => true) g = He.valX f2 [] w) : He.obsX n fa (f1 ++ f2) ts [] ex g = He.valX (f1 ++ f2) ts w := by
  unfold He.obsX He.valX He.obsT He.valT He.obsD He.valD at h1 h2 ⊢
  simp only [Prod.mk.injEq, Bool.and_eq_true] at h1 h2 ⊢
  obtain ⟨⟨⟨⟨a1, a2⟩, a3⟩, a4⟩, a5, a6⟩ := h1
  obtain ⟨⟨⟨⟨b1, b2⟩, b3⟩, b4⟩, b5, b6⟩ := h2
  refine ⟨⟨⟨⟨a1, ?_⟩, ?_⟩, a4⟩, a5, a6⟩
  · rw [List.all_append, a2, b2]
    rfl
  · rw [List.map_append, List.map_append, a3, b3]
theorem run (w : World) : HandSHeadRun.RunEq R (PySem.W.view R.prog [111]) hk ob 20000 loose w := by
  have hA := PySem.W.byRow2 "special-get-raises" (P := RunA) runA0 runA1 w
  have hB := PySem.W.byRow2 "special-get-raises" (P := RunB) runB0 runB1 w
  have hC := PySem.W.byRow2 "special-get-raises" (P := RunC) runC0 runC1 w
  intro os
  have h1 := hA os
  have h2 := hB os
  have h3 := hC os
  show (endS w os).map (fun s => (_, _, ob s)) = _
  revert h1 h2 h3
  generalize endS w os = o
  intro h1 h2 h3
  cases o with
  | none => cases h1
  | some s =>
    have e1 := Option.some.inj h1
    have e2 : obB s = _ := Option.some.inj h2
    have e3 : obC s = _ := Option.some.inj h3
    have e4 : ob s = He.valX fn ts w := by
      have q := joinX e2 e3
      rw [List.take_append_drop] at q
      exact q
    have e5 := congrArg Prod.fst e1
    have e6 := congrArg Prod.snd e1
    exact congrArg some (Prod.ext e5 (Prod.ext e6 e4))
end K73

set_option maxHeartbeats 2000000
/-! Pd1: data that stay, over the abstract heap; slots; expressions by what they are worth as data. -/
namespace Pd
open PySem PySem.Spec PyProof.Rows L2

/-! ### a part F of the heap that never changes -/
/-- F' has F, and beside it only what is new to H -/
def Gr (F F' H : Hp) : Prop := Same F F' ∧ ∀ a o, F' a = some o → F a = some o ∨ H a = none
theorem Gr.refl (F H : Hp) : Gr F F H := ⟨Same.refl F, fun _ _ h => .inl h⟩
theorem Gr.trans {F F1 F2 H H1 : Hp} (a : Gr F F1 H) (s : Same H H1) (b : Gr F1 F2 H1) : Gr F F2 H :=
  ⟨a.1.trans b.1, fun x o h => (b.2 x o h).elim (fun h1 => a.2 x o h1) (fun hn => .inr (s.free hn))⟩
theorem same_upd {H : Hp} {p : Addr} {o : HO} (h : H p = none) : Same H (upd H p o) := fun a u e => by
  rw [upd_ne (ne_of_none e h)]
  exact e
theorem gr_upd {F H : Hp} {p : Addr} {o : HO} (s : Same F H) (h : H p = none) : Gr F (upd F p o) H :=
  ⟨same_upd (s.free h), fun a u e => by
    by_cases q : a = p
    · subst q; exact .inr h
    · rw [upd_ne q] at e; exact .inl e⟩
theorem same_updB {F H : Hp} {p : Addr} {o : HO} (s : Same F H) : Same (upd F p o) (upd H p o) := fun a u e => by
  by_cases q : a = p
  · subst q; rw [upd_same] at e ⊢; exact e
  · rw [upd_ne q] at e ⊢; exact s a u e

theorem sqL_mono {K : PySem.W.Frag} {H H' : Hp} {a : Addr} {xs : List V} (e : Same H H') (h : SqL K H a xs) : SqL K H' a xs := e.seq h
theorem sqT_mono {K : PySem.W.Frag} {H H' : Hp} {a : Addr} {xs : List V} (e : Same H H') (h : SqT K H a xs) : SqT K H' a xs := by
  rcases h with (h | ⟨o, h⟩) | h
  · exact .inl (.inl (e _ _ h))
  · exact .inl (.inr ⟨o, e _ _ h⟩)
  · exact .inr h

/-! ### data by value -/
mutual
inductive Rp (K : PySem.W.Frag) (F : Hp) : V → PyData → Prop
  | non : Rp K F .non .none
  | bl (b : Bool) : Rp K F (.bl b) (.bool b)
  | int (i : Int) : Rp K F (.int i) (.int i)
  | str (x : Str) : Rp K F (.str x) (.str x)
  | lst {a : Addr} {xs : List V} {ds : List PyData} : F a = some (.lst xs) → RpAll K F xs ds → Rp K F (.ref a) (.list ds)
  | tup {a : Addr} {xs : List V} {ds : List PyData} : SqT K F a xs → RpAll K F xs ds → Rp K F (.ref a) (.tuple ds)
inductive RpAll (K : PySem.W.Frag) (F : Hp) : List V → List PyData → Prop
  | nil : RpAll K F [] []
  | cons {v : V} {vs : List V} {d : PyData} {ds : List PyData} : Rp K F v d → RpAll K F vs ds → RpAll K F (v :: vs) (d :: ds)
end
section
variable {K : PySem.W.Frag} {F F' H : Hp}
mutual
theorem Rp.mono (e : Same F F') : ∀ (d : PyData) (v : V), Rp K F v d → Rp K F' v d
  | .none, _, h => by cases h; exact .non
  | .bool b, _, h => by cases h; exact .bl b
  | .int i, _, h => by cases h; exact .int i
  | .str x, _, h => by cases h; exact .str x
  | .list ds, _, h => by
    cases h with
    | lst h1 h2 => exact .lst (e _ _ h1) (RpAll.mono e ds _ h2)
  | .tuple ds, _, h => by
    cases h with
    | tup h1 h2 => exact .tup (sqT_mono e h1) (RpAll.mono e ds _ h2)
  | .dict _, _, h => by cases h
theorem RpAll.mono (e : Same F F') : ∀ (ds : List PyData) (vs : List V), RpAll K F vs ds → RpAll K F' vs ds
  | [], _, h => by cases h; exact .nil
  | d :: ds, _, h => by
    cases h with
    | cons h1 h2 => exact .cons (Rp.mono e d _ h1) (RpAll.mono e ds _ h2)
end
mutual
theorem Rp.dp (s : Same F H) : ∀ (d : PyData) (v : V), Rp K F v d → Dp K H v d
  | .none, _, h => by cases h; exact .non
  | .bool b, _, h => by cases h; exact .bl b
  | .int i, _, h => by cases h; exact .int i
  | .str x, _, h => by cases h; exact .str x
  | .list ds, _, h => by
    cases h with
    | lst h1 h2 => exact .lst (.inl (.inl (s _ _ h1))) (RpAll.dp s ds _ h2)
  | .tuple ds, _, h => by
    cases h with
    | tup h1 h2 => exact .tup (sqT_mono s h1) (RpAll.dp s ds _ h2)
  | .dict _, _, h => by cases h
theorem RpAll.dp (s : Same F H) : ∀ (ds : List PyData) (vs : List V), RpAll K F vs ds → DpAll K H vs ds
  | [], _, h => by cases h; exact .nil
  | d :: ds, _, h => by
    cases h with
    | cons h1 h2 => exact .cons (Rp.dp s d _ h1) (RpAll.dp s ds _ h2)
end
theorem RpAll.length : ∀ {vs : List V} {ds : List PyData}, RpAll K F vs ds → vs.length = ds.length
  | _, _, .nil => rfl
  | _, _, .cons _ t => congrArg (· + 1) (RpAll.length t)
theorem RpAll.get : ∀ {vs : List V} {ds : List PyData} {i : Nat} {d : PyData}, RpAll K F vs ds → ds[i]? = some d → ∃ v, vs[i]? = some v ∧ Rp K F v d
  | _, _, _, _, .nil, e => by simp at e
  | _, _, 0, _, .cons r _, e => by simp at e; subst e; exact ⟨_, rfl, r⟩
  | _, _, i + 1, d, .cons _ t, e => by
    obtain ⟨v, h1, h2⟩ := RpAll.get (i := i) (d := d) t (by simpa using e)
    exact ⟨v, by simpa using h1, h2⟩
theorem RpAll.getV : ∀ {vs : List V} {ds : List PyData} {i : Nat} {v : V}, RpAll K F vs ds → vs[i]? = some v → ∃ d, ds[i]? = some d ∧ Rp K F v d
  | _, _, _, _, .nil, e => by simp at e
  | _, _, 0, _, .cons r _, e => by simp at e; subst e; exact ⟨_, rfl, r⟩
  | _, _, i + 1, d, .cons _ t, e => by
    obtain ⟨v, h1, h2⟩ := RpAll.getV (i := i) (v := d) t (by simpa using e)
    exact ⟨v, by simpa using h1, h2⟩
theorem RpAll.append : ∀ {vs ws : List V} {ds es : List PyData}, RpAll K F vs ds → RpAll K F ws es → RpAll K F (vs ++ ws) (ds ++ es)
  | _, _, _, _, .nil, s => s
  | _, _, _, _, .cons r t, s => .cons r (RpAll.append t s)
theorem RpAll.take : ∀ {vs : List V} {ds : List PyData} (n : Nat), RpAll K F vs ds → RpAll K F (vs.take n) (ds.take n)
  | _, _, 0, _ => .nil
  | _, _, _ + 1, .nil => .nil
  | _, _, n + 1, .cons r t => .cons r (RpAll.take n t)
theorem RpAll.drop : ∀ {vs : List V} {ds : List PyData} (n : Nat), RpAll K F vs ds → RpAll K F (vs.drop n) (ds.drop n)
  | _, _, 0, r => r
  | _, _, _ + 1, .nil => .nil
  | _, _, n + 1, .cons _ t => RpAll.drop n t
theorem RpAll.reverse : ∀ {vs : List V} {ds : List PyData}, RpAll K F vs ds → RpAll K F vs.reverse ds.reverse
  | _, _, .nil => .nil
  | _, _, .cons r t => by
    rw [List.reverse_cons, List.reverse_cons]
    exact RpAll.append (RpAll.reverse t) (.cons r .nil)
theorem RpAll.strs : ∀ {ys : List Str}, RpAll K F (ys.map V.str) (ys.map PyData.str)
  | [] => .nil
  | y :: ys => .cons (.str y) RpAll.strs
theorem rp_str {v : V} {x : Str} (h : Rp K F v (.str x)) : v = .str x := by cases h; rfl
theorem rp_int {v : V} {x : Int} (h : Rp K F v (.int x)) : v = .int x := by cases h; rfl
theorem rp_bl {v : V} {x : Bool} (h : Rp K F v (.bool x)) : v = .bl x := by cases h; rfl
theorem rp_non {v : V} (h : Rp K F v .none) : v = .non := by cases h; rfl
theorem rp_tup {v : V} {ds : List PyData} (h : Rp K F v (.tuple ds)) : ∃ a vs, v = .ref a ∧ SqT K F a vs ∧ RpAll K F vs ds := by cases h; exact ⟨_, _, rfl, by assumption, by assumption⟩
theorem rp_lst {v : V} {ds : List PyData} (h : Rp K F v (.list ds)) : ∃ a vs, v = .ref a ∧ F a = some (.lst vs) ∧ RpAll K F vs ds := by cases h; exact ⟨_, _, rfl, by assumption, by assumption⟩
/-- texts alone -/
theorem RpAll.ofStrs : ∀ {vs : List V} {ys : List Str}, RpAll K F vs (ys.map PyData.str) → vs = ys.map V.str
  | _, [], h => by cases h; rfl
  | _, y :: ys, h => by
    cases h with
    | cons h1 h2 =>
      cases h1
      rw [RpAll.ofStrs h2]
      rfl
end

/-! ### slots -/
/-- what a slot holds: data that stay; a list of the body's own, that nothing else knows; a dict by texts that stays -/
inductive Cell where
  | vl (d : PyData)
  | ow (ds : List PyData)
  | dk (kvs : List (Str × PyData))
  | fz (kvs : List (Str × PyData))
  | nk (kvs : List (NestedKey × Int × PyData))
abbrev Sl := List (Option Cell)
def DkAll (K : PySem.W.Frag) (F : Hp) : List (Key × V) → List (Str × PyData) → Prop
  | [], [] => True
  | (k, v) :: r, (x, d) :: t => k = .inr x ∧ Rp K F v d ∧ DkAll K F r t
  | _, _ => False
theorem DkAll.mono {K : PySem.W.Frag} {F F' : Hp} (e : Same F F') : ∀ {l : List (Key × V)} {m : List (Str × PyData)}, DkAll K F l m → DkAll K F' l m
  | [], [], _ => trivial
  | (_, _) :: _, (_, _) :: _, ⟨h1, h2, h3⟩ => ⟨h1, Rp.mono e _ _ h2, DkAll.mono e h3⟩
  | [], _ :: _, h => h.elim
  | _ :: _, [], h => h.elim
/-- the entries of a dict by nested keys, each key with its hash -/
def NkAll (K : PySem.W.Frag) (F : Hp) : List DictEntry → List (NestedKey × Int × PyData) → Prop
  | [], [] => True
  | e :: es, (k, hh, d) :: r => (∃ b, e.key = .ref b ∧ Rp K F (.ref b) k.data) ∧ e.hash = hh ∧ (∃ v, RelV v e.val ∧ Rp K F v d) ∧ NkAll K F es r
  | _, _ => False
theorem NkAll.mono {K : PySem.W.Frag} {F F' : Hp} (e : Same F F') : ∀ {l : List DictEntry} {m : List (NestedKey × Int × PyData)}, NkAll K F l m → NkAll K F' l m
  | [], [], _ => trivial
  | _ :: _, (_, _, _) :: _, ⟨⟨b, h1, h2⟩, h3, ⟨v, h4, h5⟩, h6⟩ => ⟨⟨b, h1, Rp.mono e _ _ h2⟩, h3, ⟨v, h4, Rp.mono e _ _ h5⟩, NkAll.mono e h6⟩
  | [], _ :: _, h => h.elim
  | _ :: _, [], h => h.elim
def rawD (d : Addr) (es : Array DictEntry) (ep : Nat) : HO := .ext fun h => h.DictRaw d es ep
def CellOk (K : PySem.W.Frag) (F H : Hp) (v : V) : Cell → Prop
  | .vl d => Rp K F v d
  | .ow ds => ∃ a vs, v = .ref a ∧ H a = some (.lst vs) ∧ F a = none ∧ RpAll K F vs ds
  | .dk kvs => ∃ a ks, v = .ref a ∧ F a = some (.dK ks) ∧ DkAll K F ks kvs
  | .fz kvs => ∃ a o ks, v = .ref a ∧ F a = some (.frz o (.dK ks)) ∧ DkAll K F ks kvs
  | .nk kvs => ∃ d es ep, v = .ref d ∧ F d = some (rawD d es ep) ∧ (d == sysModules) = false ∧ NkAll K F es.toList kvs
structure Rel (K : PySem.W.Frag) (F H : Hp) (σ : L2.St) (ρ : Sl) : Prop where
  len : σ.length = ρ.length
  ex : Same F H
  cell : ∀ (i : Nat) (c : Cell), ρ[i]? = some (some c) → ∃ v, σ[i]? = some (some v) ∧ CellOk K F H v c
  inj : ∀ (i j : Nat) (ds es : List PyData) (a : Addr), i ≠ j → ρ[i]? = some (some (.ow ds)) → ρ[j]? = some (some (.ow es)) → σ[i]? = some (some (.ref a)) → σ[j]? = some (some (.ref a)) → False
section
variable {K : PySem.W.Frag} {F F' H H' : Hp} {σ : L2.St} {ρ : Sl}
theorem CellOk.grow {v : V} {c : Cell} (h : CellOk K F H v c) (s : Same H H') (g : Gr F F' H) : CellOk K F' H' v c := by
  cases c with
  | vl d => exact Rp.mono g.1 _ _ h
  | ow ds =>
    obtain ⟨a, vs, e, h1, h2, h3⟩ := h
    refine ⟨a, vs, e, s _ _ h1, ?_, RpAll.mono g.1 _ _ h3⟩
    cases q : F' a with
    | none => rfl
    | some o =>
      rcases g.2 a o q with z | z
      · rw [h2] at z; cases z
      · rw [h1] at z; cases z
  | dk kvs =>
    obtain ⟨a, ks, e, h1, h2⟩ := h
    exact ⟨a, ks, e, g.1 _ _ h1, DkAll.mono g.1 h2⟩
  | fz kvs =>
    obtain ⟨a, o, ks, e, h1, h2⟩ := h
    exact ⟨a, o, ks, e, g.1 _ _ h1, DkAll.mono g.1 h2⟩
  | nk kvs =>
    obtain ⟨d, es, ep, e, h1, h2, h3⟩ := h
    exact ⟨d, es, ep, e, g.1 _ _ h1, h2, NkAll.mono g.1 h3⟩
theorem Rel.grow (R : Rel K F H σ ρ) (s : Same H H') (g : Gr F F' H) (e : Same F' H') : Rel K F' H' σ ρ :=
  ⟨R.len, e, fun i c h => let ⟨v, h1, h2⟩ := R.cell i c h; ⟨v, h1, h2.grow s g⟩, R.inj⟩
theorem Rel.vl (R : Rel K F H σ ρ) {i : Nat} {d : PyData} (h : ρ[i]? = some (some (.vl d))) : ∃ v, σ[i]? = some (some v) ∧ Rp K F v d := R.cell i _ h
/-- a slot gets data -/
theorem Rel.set (R : Rel K F H σ ρ) {i : Nat} {v : V} {d : PyData} (h : Rp K F v d) : Rel K F H (σ.set i (some v)) (ρ.set i (some (.vl d))) := by
  refine ⟨by simp [R.len], R.ex, fun j c e => ?_, fun j k ds es a ne e1 e2 e3 e4 => ?_⟩
  · by_cases q : i = j
    · subst q
      by_cases hl : i < ρ.length
      · rw [List.getElem?_set_self hl] at e
        cases e
        exact ⟨v, by rw [List.getElem?_set_self (by rw [R.len]; exact hl)], h⟩
      · rw [List.getElem?_eq_none (by simpa using hl)] at e
        cases e
    · rw [List.getElem?_set_ne q] at e ⊢
      exact R.cell j c e
  · have n1 : i ≠ j := fun q => by
      subst q
      by_cases hl : i < ρ.length
      · rw [List.getElem?_set_self hl] at e1; cases e1
      · rw [List.getElem?_eq_none (by simpa using hl)] at e1; cases e1
    have n2 : i ≠ k := fun q => by
      subst q
      by_cases hl : i < ρ.length
      · rw [List.getElem?_set_self hl] at e2; cases e2
      · rw [List.getElem?_eq_none (by simpa using hl)] at e2; cases e2
    rw [List.getElem?_set_ne n1] at e1 e3
    rw [List.getElem?_set_ne n2] at e2 e4
    exact R.inj j k ds es a ne e1 e2 e3 e4
/-- slots forgotten -/
theorem Rel.forget (R : Rel K F H σ ρ) (i : Nat) : Rel K F H (σ.set i none) (ρ.set i none) := by
  refine ⟨by simp [R.len], R.ex, fun j c e => ?_, fun j k ds es a ne e1 e2 e3 e4 => ?_⟩
  · by_cases q : i = j
    · subst q
      by_cases hl : i < ρ.length
      · rw [List.getElem?_set_self hl] at e; cases e
      · rw [List.getElem?_eq_none (by simpa using hl)] at e; cases e
    · rw [List.getElem?_set_ne q] at e ⊢
      exact R.cell j c e
  · have n1 : i ≠ j := fun q => by
      subst q
      by_cases hl : i < ρ.length
      · rw [List.getElem?_set_self hl] at e1; cases e1
      · rw [List.getElem?_eq_none (by simpa using hl)] at e1; cases e1
    have n2 : i ≠ k := fun q => by
      subst q
      by_cases hl : i < ρ.length
      · rw [List.getElem?_set_self hl] at e2; cases e2
      · rw [List.getElem?_eq_none (by simpa using hl)] at e2; cases e2
    rw [List.getElem?_set_ne n1] at e1 e3
    rw [List.getElem?_set_ne n2] at e2 e4
    exact R.inj j k ds es a ne e1 e2 e3 e4
def wipeD (ρ : Sl) : List Nat → Sl
  | [] => ρ
  | v :: vs => (wipeD ρ vs).set v none
theorem Rel.wipe (R : Rel K F H σ ρ) : ∀ vs : List Nat, Rel K F H (L2.wipe σ vs) (wipeD ρ vs)
  | [] => R
  | v :: vs => (Rel.wipe R vs).forget v
end

/-! ### contexts told by what they have in common -/
structure Fam (C : Cx → Prop) (P : Program) (w : World) (K : PySem.W.Frag) (mg : Str → Option Value) (base : Heap) (N : List Str) (sc : Scope) (k : Nat) (top : Bool) : Prop where
  prog : ∀ X, C X → X.prog = P
  wo : ∀ X, C X → X.w = w
  K_ : ∀ X, C X → X.K = K
  mg_ : ∀ X, C X → X.mg = mg
  base_ : ∀ X, C X → X.base = base
  N_ : ∀ X, C X → X.N = N
  sc_ : ∀ X, C X → X.env.scope = sc
  calm : ∀ X, C X → X.calm = true
  room : ∀ X, C X → Room k X.A
  fn : top = true → ∀ X, C X → ∀ x, X.fn x = true
  xe : ∀ X, C X → X.xe = fun _ _ => False
  nd : N.Nodup
end Pd

set_option maxHeartbeats 2000000
/-! Pd2: expressions, tests, arguments by what they are worth as data. -/
namespace Pd
open PySem PySem.Spec PyProof.Rows L2

abbrev E1 := Sl → Option PyData
abbrev T1 := Sl → Option Bool
abbrev A1 := Sl → Option (List PyData)

/-- the reading te gives d, leaving what is known -/
def EvD (K : PySem.W.Frag) (te : TE) (σ : L2.St) (F H : Hp) (d : PyData) : Prop :=
  ∀ Q : VK, (∀ v F' H', Same H H' → Gr F F' H → Same F' H' → Rp K F' v d → Q v H') → te σ H Q
def EvT (tt : TT) (σ : L2.St) (H : Hp) (b : Bool) : Prop := ∀ Q : Bool → Hp → Prop, (∀ H', Same H H' → Q b H') → tt σ H Q
def EvA (K : PySem.W.Frag) (ta : TA) (σ : L2.St) (F H : Hp) (ds : List PyData) : Prop :=
  ∀ Q : List V → Hp → Prop, (∀ vs F' H', Same H H' → Gr F F' H → Same F' H' → RpAll K F' vs ds → Q vs H') → ta σ H Q
/-- a two-place operation on values; a one-place one; a call -/
def Rv2 (K : PySem.W.Frag) (r : R2) (x y : V) (F H : Hp) (d : PyData) : Prop :=
  ∀ Q : VK, (∀ v F' H', Same H H' → Gr F F' H → Same F' H' → Rp K F' v d → Q v H') → r x y H Q
def Rv1 (K : PySem.W.Frag) (r : V → Hp → VK → Prop) (x : V) (F H : Hp) (d : PyData) : Prop :=
  ∀ Q : VK, (∀ v F' H', Same H H' → Gr F F' H → Same F' H' → Rp K F' v d → Q v H') → r x H Q
def RvC (K : PySem.W.Frag) (r : List V → Hp → VK → Prop) (vs : List V) (F H : Hp) (d : PyData) : Prop :=
  ∀ Q : VK, (∀ v F' H', Same H H' → Gr F F' H → Same F' H' → Rp K F' v d → Q v H') → r vs H Q

structure PEd (C : Cx → Prop) (K : PySem.W.Frag) (e : Expr) (r : E1) : Prop where
  ex : ∃ te, (∀ X, C X → PE X e te) ∧ ∀ F H σ ρ d, Rel K F H σ ρ → r ρ = some d → EvD K te σ F H d
structure PTd (C : Cx → Prop) (K : PySem.W.Frag) (e : Expr) (r : T1) : Prop where
  ex : ∃ tt, (∀ X, C X → PT X e tt) ∧ ∀ F H σ ρ b, Rel K F H σ ρ → r ρ = some b → EvT tt σ H b
structure PAd (C : Cx → Prop) (K : PySem.W.Frag) (es : List Expr) (r : A1) : Prop where
  ex : ∃ ta, (∀ X, C X → PA X es ta) ∧ ∀ F H σ ρ ds, Rel K F H σ ρ → r ρ = some ds → EvA K ta σ F H ds

/-! ### the mirrors -/
def rVar (i : Nat) : E1 := fun ρ => match ρ[i]? with
  | some (some (.vl d)) => some d
  | _ => none
def rC (d : PyData) : E1 := fun _ => some d
def rE1 (f : PyData → Option PyData) (a : E1) : E1 := fun ρ => (a ρ).bind f
def rE2 (f : PyData → PyData → Option PyData) (a b : E1) : E1 := fun ρ => (a ρ).bind fun x => (b ρ).bind fun y => f x y
def rA (f : List PyData → Option PyData) (a : A1) : E1 := fun ρ => (a ρ).bind f
def aNil : A1 := fun _ => some []
def aCons (a : E1) (t : A1) : A1 := fun ρ => (a ρ).bind fun d => (t ρ).map fun ds => d :: ds
def seqOf : PyData → Option (List PyData)
  | .tuple ds => some ds
  | .list ds => some ds
  | _ => none
def aStar (a : E1) (t : A1) : A1 := fun ρ => (a ρ).bind fun d => (seqOf d).bind fun xs => (t ρ).map fun ds => xs ++ ds
def boolOf : PyData → Option Bool
  | .bool b => some b
  | _ => none
def tVal (a : E1) : T1 := fun ρ => (a ρ).bind boolOf
def tAndD (a b : T1) : T1 := fun ρ => match a ρ with
  | some true => b ρ
  | some false => some false
  | none => none
def tOrD (a b : T1) : T1 := fun ρ => match a ρ with
  | some true => some true
  | some false => b ρ
  | none => none
def tNotD (a : T1) : T1 := fun ρ => (a ρ).map (!·)
def rAnd (a b : E1) : E1 := fun ρ => match a ρ with
  | some (.bool true) => b ρ
  | some (.bool false) => some (.bool false)
  | _ => none
def rOr (a b : E1) : E1 := fun ρ => match a ρ with
  | some (.bool true) => some (.bool true)
  | some (.bool false) => b ρ
  | _ => none
def rNot (a : E1) : E1 := fun ρ => match a ρ with
  | some (.bool b) => some (.bool (!b))
  | _ => none
def rIf (t : T1) (a b : E1) : E1 := fun ρ => match t ρ with
  | some true => a ρ
  | some false => b ρ
  | none => none

/-! ### names -/
def visB (sc : Scope) (x : Str) : Bool := match sc.names.lookup x with
  | some .local => true
  | some .cell => true
  | some .free => true
  | _ => false
def glB (sc : Scope) (x : Str) : Bool := match sc.names.lookup x with
  | some .globalImplicit => true
  | _ => false
def plainN (x : Str) : Bool := !(x == ("__debug__" : Str)) && (!(x == ("__classdict__" : Str)) && !(decide (x = ("__name__" : Str))))
theorem visB_ok {sc : Scope} {x : Str} (h : visB sc x = true) : Vis sc x := by
  unfold visB at h
  unfold Vis
  split at h <;> first | (rename_i e; rw [e]; simp) | cases h
theorem glB_ok {sc : Scope} {x : Str} (h : glB sc x = true) : sc.names.lookup x = some .globalImplicit := by
  unfold glB at h
  split at h
  · assumption
  · cases h
theorem plainN_d {x : Str} (h : plainN x = true) : (x == ("__debug__" : Str)) = false := by
  unfold plainN at h
  simp only [Bool.and_eq_true, Bool.not_eq_true'] at h
  exact h.1
theorem plainN_c {x : Str} (h : plainN x = true) : (x == ("__classdict__" : Str)) = false := by
  unfold plainN at h
  simp only [Bool.and_eq_true, Bool.not_eq_true'] at h
  exact h.2.1
theorem plainN_n {x : Str} (h : plainN x = true) : x ≠ "__name__" := by
  unfold plainN at h
  simp only [Bool.and_eq_true, Bool.not_eq_true', decide_eq_false_iff_not] at h
  exact h.2.2
def okV (N : List Str) (sc : Scope) (i : Nat) (x : Str) : Bool := decide (N[i]? = some x) && (visB sc x && plainN x)
def okG (sc : Scope) (x : Str) : Bool := glB sc x && plainN x

section
variable {C : Cx → Prop} {P : Program} {w : World} {K : PySem.W.Frag} {mg : Str → Option Value} {base : Heap} {N : List Str} {sc : Scope} {k : Nat} {top : Bool}
theorem Fam.gl (Z : Fam C P w K mg base N sc k top) {x : Str} (h : glB sc x = true) {X : Cx} (c : C X) : Gl X x := by
  unfold Gl Env.kindOf
  rw [Z.sc_ X c]
  exact glB_ok h
theorem Fam.units (Z : Fam C P w K mg base N sc k top) {X : Cx} (c : C X) : X.A.units + 100 < cLine := by
  have := (Z.room X c).un
  omega

theorem pd_var (Z : Fam C P w K mg base N sc k top) (i : Nat) {x : Str} {pos : Pos} (h : okV N sc i x = true) : PEd C K (.Name x pos) (rVar i) := by
  unfold okV at h
  simp only [Bool.and_eq_true, decide_eq_true_eq] at h
  refine ⟨tVar i, fun X c => pe_var (by rw [Z.N_ X c]; exact h.1) (by rw [Z.sc_ X c]; exact visB_ok h.2.1) (plainN_d h.2.2) (plainN_c h.2.2), fun F H σ ρ d R e Q q => ?_⟩
  unfold rVar at e
  split at e
  · rename_i d' e'
    cases e
    obtain ⟨v, h1, h2⟩ := R.vl e'
    exact ⟨v, h1, q v F H (Same.refl H) (Gr.refl F H) R.ex h2⟩
  · cases e
theorem pd_const {e : Expr} {v : V} {d : PyData} (he : ∀ X, C X → PE X e (tC v)) (hr : ∀ F, Rp K F v d) : PEd C K e (rC d) :=
  ⟨tC v, he, fun F H σ ρ d' R e Q q => by
    cases e
    exact q v F H (Same.refl H) (Gr.refl F H) R.ex (hr F)⟩
theorem pd_int {i : Int} {j} {pos : Pos} : PEd C K (.Constant (.int i) j pos) (rC (.int i)) := pd_const (fun _ _ => pe_int) fun _ => .int i
theorem pd_bl {b : Bool} {j} {pos : Pos} : PEd C K (.Constant (.bool b) j pos) (rC (.bool b)) := pd_const (fun _ _ => pe_bl) fun _ => .bl b
theorem pd_non {j} {pos : Pos} : PEd C K (.Constant .none j pos) (rC .none) := pd_const (fun _ _ => pe_non) fun _ => .non
theorem pd_str {x : Str} {j} {pos : Pos} : PEd C K (.Constant (.str x) j pos) (rC (.str x)) := pd_const (fun _ _ => pe_str) fun _ => .str x
/-- a module's constant -/
theorem pd_glob (Z : Fam C P w K mg base N sc k top) {x : Str} {v : V} {d : PyData} {pos : Pos} (hm : ∃ u, mg x = some u ∧ RelV v u) (hr : ∀ F, Rp K F v d) (h : okG sc x = true) : PEd C K (.Name x pos) (rC d) := by
  unfold okG at h
  simp only [Bool.and_eq_true] at h
  obtain ⟨u, hm, r⟩ := hm
  exact pd_const (fun X c => pe_glob (Z.gl h.1 c) (by rw [Z.mg_ X c]; exact hm) r (plainN_d h.2)) hr

/-! ### operations -/
theorem ev_r2 {ta tb : TE} {r : R2} {F H : Hp} {σ : L2.St} {ρ : Sl} {dx dy d : PyData} (R : Rel K F H σ ρ) (ha : EvD K ta σ F H dx) (hb : ∀ F1 H1, Rel K F1 H1 σ ρ → EvD K tb σ F1 H1 dy)
    (hr : ∀ F H x y, Same F H → Rp K F x dx → Rp K F y dy → Rv2 K r x y F H d) : EvD K (tOp r ta tb) σ F H d := fun Q q =>
  ha _ fun x F1 H1 s1 g1 e1 r1 => hb F1 H1 (R.grow s1 g1 e1) _ fun y F2 H2 s2 g2 e2 r2 => hr F2 H2 x y e2 (Rp.mono g2.1 _ _ r1) r2 Q fun v F3 H3 s3 g3 e3 r3 =>
    q v F3 H3 ((s1.trans s2).trans s3) ((g1.trans s1 g2).trans (s1.trans s2) g3) e3 r3
theorem bind2 {a b : E1} {f : PyData → PyData → Option PyData} {ρ : Sl} {d : PyData} (h : rE2 f a b ρ = some d) : ∃ x y, a ρ = some x ∧ b ρ = some y ∧ f x y = some d := by
  unfold rE2 at h
  cases e1 : a ρ with
  | none => rw [e1] at h; cases h
  | some x =>
    rw [e1] at h
    cases e2 : b ρ with
    | none =>
      have h1 : (b ρ).bind (fun y => f x y) = some d := h
      rw [e2] at h1
      cases h1
    | some y =>
      have h1 : (b ρ).bind (fun y => f x y) = some d := h
      rw [e2] at h1
      exact ⟨x, y, rfl, rfl, h1⟩
theorem bind1 {a : E1} {f : PyData → Option PyData} {ρ : Sl} {d : PyData} (h : rE1 f a ρ = some d) : ∃ x, a ρ = some x ∧ f x = some d := by
  unfold rE1 at h
  cases e1 : a ρ with
  | none => rw [e1] at h; cases h
  | some x =>
    rw [e1] at h
    exact ⟨x, rfl, h⟩
theorem bindA {a : A1} {f : List PyData → Option PyData} {ρ : Sl} {d : PyData} (h : rA f a ρ = some d) : ∃ x, a ρ = some x ∧ f x = some d := by
  unfold rA at h
  cases e1 : a ρ with
  | none => rw [e1] at h; cases h
  | some x =>
    rw [e1] at h
    exact ⟨x, rfl, h⟩
/-- what a rule by values does, as data -/
def Op2 (K : PySem.W.Frag) (r : R2) (f : PyData → PyData → Option PyData) : Prop := ∀ F H x y dx dy d, Same F H → Rp K F x dx → Rp K F y dy → f dx dy = some d → Rv2 K r x y F H d
def Op1 (K : PySem.W.Frag) (r : V → Hp → VK → Prop) (f : PyData → Option PyData) : Prop := ∀ F H x dx d, Same F H → Rp K F x dx → f dx = some d → Rv1 K r x F H d
def OpC (K : PySem.W.Frag) (r : List V → Hp → VK → Prop) (f : List PyData → Option PyData) : Prop := ∀ F H vs ds d, Same F H → RpAll K F vs ds → f ds = some d → RvC K r vs F H d
theorem Op2.or {r r' : R2} {f : PyData → PyData → Option PyData} {g : PyData → PyData → Option PyData} (h : Op2 K r f) (h' : Op2 K r' g) : Op2 K (fun x y H Q => r x y H Q ∨ r' x y H Q) (fun x y => (f x y).or (g x y)) := fun F H x y dx dy d s rx ry e Q q => by
  have e1 : (f dx dy).or (g dx dy) = some d := e
  cases h1 : f dx dy with
  | some z =>
    rw [h1] at e1
    cases e1
    exact .inl (h F H x y dx dy d s rx ry h1 Q q)
  | none =>
    rw [h1] at e1
    exact .inr (h' F H x y dx dy d s rx ry e1 Q q)
theorem OpC.or {r r' : List V → Hp → VK → Prop} {f g : List PyData → Option PyData} (h : OpC K r f) (h' : OpC K r' g) : OpC K (fun x H Q => r x H Q ∨ r' x H Q) (fun x => (f x).or (g x)) := fun F H x dx d s rx e Q q => by
  have e1 : (f dx).or (g dx) = some d := e
  cases h1 : f dx with
  | some z =>
    rw [h1] at e1
    cases e1
    exact .inl (h F H x dx d s rx h1 Q q)
  | none =>
    rw [h1] at e1
    exact .inr (h' F H x dx d s rx e1 Q q)

theorem pd_bin {op : Operator} {r : R2} {f : PyData → PyData → Option PyData} {a b : Expr} {ra rb : E1} {pos : Pos} (ho : ∀ X, C X → OpR X (binaryOp op) r) (hf : Op2 K r f) (ha : PEd C K a ra) (hb : PEd C K b rb) :
    PEd C K (.BinOp a op b pos) (rE2 f ra rb) := by
  obtain ⟨ta, ha, sa⟩ := ha.ex
  obtain ⟨tb, hb, sb⟩ := hb.ex
  refine ⟨tOp r ta tb, fun X c => pe_op (ho X c) (ha X c) (hb X c), fun F H σ ρ d R e => ?_⟩
  obtain ⟨x, y, e1, e2, e3⟩ := bind2 e
  exact ev_r2 R (sa F H σ ρ x R e1) (fun F1 H1 R1 => sb F1 H1 σ ρ y R1 e2) fun F H v u s rv ru => hf F H v u x y d s rv ru e3
theorem pd_cmp {op : CmpOp} {r : R2} {f : PyData → PyData → Option PyData} {a b : Expr} {ra rb : E1} {pos : Pos} (ho : ∀ X, C X → OpR X (compareOp op) r) (hf : Op2 K r f) (ha : PEd C K a ra) (hb : PEd C K b rb)
    (hm : behindInMarks op b = false) : PEd C K (.Compare a [op] [b] pos) (rE2 f ra rb) := by
  obtain ⟨ta, ha, sa⟩ := ha.ex
  obtain ⟨tb, hb, sb⟩ := hb.ex
  refine ⟨tOp r ta tb, fun X c => pe_cmpR (ho X c) (ha X c) (hb X c) hm, fun F H σ ρ d R e => ?_⟩
  obtain ⟨x, y, e1, e2, e3⟩ := bind2 e
  exact ev_r2 R (sa F H σ ρ x R e1) (fun F1 H1 R1 => sb F1 H1 σ ρ y R1 e2) fun F H v u s rv ru => hf F H v u x y d s rv ru e3
theorem evT_of {te : TE} {σ : L2.St} {F H : Hp} {b : Bool} (h : EvD K te σ F H (.bool b)) : EvT (fun σ H Q => te σ H fun x H1 => ∃ c, x = .bl c ∧ Q c H1) σ H b := fun Q q =>
  h _ fun v F' H' s g e r => ⟨b, rp_bl r, q H' s⟩
theorem tVal_ok {a : E1} {ρ : Sl} {b : Bool} (h : tVal a ρ = some b) : a ρ = some (.bool b) := by
  unfold tVal at h
  cases e : a ρ with
  | none => rw [e] at h; cases h
  | some d =>
    rw [e] at h
    have h1 : boolOf d = some b := h
    cases d <;> simp [boolOf] at h1
    rw [h1]
theorem ptd_cmp {op : CmpOp} {r : R2} {f : PyData → PyData → Option PyData} {a b : Expr} {ra rb : E1} {pos : Pos} (ho : ∀ X, C X → OpR X (compareOp op) r) (hf : Op2 K r f) (ha : PEd C K a ra) (hb : PEd C K b rb)
    (hm : behindInMarks op b = false) : PTd C K (.Compare a [op] [b] pos) (tVal (rE2 f ra rb)) := by
  obtain ⟨ta, ha, sa⟩ := ha.ex
  obtain ⟨tb, hb, sb⟩ := hb.ex
  refine ⟨tTest (tOp r ta tb), fun X c => pt_cmpR (ho X c) (ha X c) (hb X c) hm, fun F H σ ρ d R e => ?_⟩
  obtain ⟨x, y, e1, e2, e3⟩ := bind2 (tVal_ok e)
  exact evT_of (ev_r2 R (sa F H σ ρ x R e1) (fun F1 H1 R1 => sb F1 H1 σ ρ y R1 e2) fun F H v u s rv ru => hf F H v u x y _ s rv ru e3)
theorem pd_un {op : UnaryOp} {r : V → Hp → VK → Prop} {f : PyData → Option PyData} {a : Expr} {ra : E1} {pos : Pos} (ho : ∀ X, C X → UnR X (unaryOp op) r) (hf : Op1 K r f) (ha : PEd C K a ra) : PEd C K (.UnaryOp op a pos) (rE1 f ra) := by
  obtain ⟨ta, ha, sa⟩ := ha.ex
  refine ⟨tUn r ta, fun X c => pe_un (ho X c) (ha X c), fun F H σ ρ d R e Q q => ?_⟩
  obtain ⟨x, e1, e2⟩ := bind1 e
  exact sa F H σ ρ x R e1 _ fun v F1 H1 s1 g1 f1 r1 => hf F1 H1 v x d f1 r1 e2 Q fun u F2 H2 s2 g2 f2 r2 => q u F2 H2 (s1.trans s2) (g1.trans s1 g2) f2 r2
/-- a chain a op b op' c -/
def rChain (f g : PyData → PyData → Option PyData) (a b c : E1) : E1 := fun ρ => (a ρ).bind fun x => (b ρ).bind fun y => match f x y with
  | some (.bool true) => (c ρ).bind fun z => g y z
  | some (.bool false) => some (.bool false)
  | _ => none
theorem chain_ev {ta tb tc : TE} {r r' : R2} {f g : PyData → PyData → Option PyData} {ra rb rc : E1} (hf : Op2 K r f) (hg : Op2 K r' g)
    (sa : ∀ F H σ ρ d, Rel K F H σ ρ → ra ρ = some d → EvD K ta σ F H d) (sb : ∀ F H σ ρ d, Rel K F H σ ρ → rb ρ = some d → EvD K tb σ F H d) (sc' : ∀ F H σ ρ d, Rel K F H σ ρ → rc ρ = some d → EvD K tc σ F H d)
    {F H : Hp} {σ : L2.St} {ρ : Sl} {d : PyData} (R : Rel K F H σ ρ) (e : rChain f g ra rb rc ρ = some d) : EvD K (tChain r r' ta tb tc) σ F H d := fun Q q => by
  unfold rChain at e
  cases e1 : ra ρ with
  | none => rw [e1] at e; cases e
  | some x =>
    rw [e1] at e
    cases e2 : rb ρ with
    | none =>
      have h1 : (rb ρ).bind _ = some d := e
      rw [e2] at h1
      cases h1
    | some y =>
      have h1 : (rb ρ).bind _ = some d := e
      rw [e2] at h1
      refine sa F H σ ρ x R e1 _ fun v F1 H1 s1 g1 f1 r1 => sb F1 H1 σ ρ y (R.grow s1 g1 f1) e2 _ fun u F2 H2 s2 g2 f2 r2 => ?_
      have R2 := (R.grow s1 g1 f1).grow s2 g2 f2
      cases e3 : f x y with
      | none =>
        have h2 : (match f x y with
          | some (.bool true) => (rc ρ).bind fun z => g y z
          | some (.bool false) => some (.bool false)
          | _ => none) = some d := h1
        rw [e3] at h2
        cases h2
      | some z =>
        have h2 : (match f x y with
          | some (.bool true) => (rc ρ).bind fun z => g y z
          | some (.bool false) => some (.bool false)
          | _ => none) = some d := h1
        rw [e3] at h2
        have key : ∀ b, z = .bool b → (if b = true then (rc ρ).bind (fun z => g y z) = some d else d = .bool false) := fun b hb => by
          subst hb
          cases b with
          | true => exact h2
          | false =>
            have h3 : (some (PyData.bool false)) = some d := h2
            exact (Option.some.inj h3).symm
        have hz : ∃ b, z = .bool b := by
          cases z <;> first | exact ⟨_, rfl⟩ | cases h2
        obtain ⟨b, rfl⟩ := hz
        refine hf F2 H2 v u x y (.bool b) f2 (Rp.mono g2.1 _ _ r1) r2 e3 _ fun p F3 H3 s3 g3 f3 r3 => ⟨b, rp_bl r3, ?_⟩
        have R3 := R2.grow s3 g3 f3
        have kb := key b rfl
        cases b with
        | false =>
          have hd : d = .bool false := kb
          subst hd
          rw [if_neg Bool.false_ne_true]
          exact q _ F3 H3 ((s1.trans s2).trans s3) ((g1.trans s1 g2).trans (s1.trans s2) g3) f3 (.bl false)
        | true =>
          rw [if_pos rfl]
          have h4 : (rc ρ).bind (fun z => g y z) = some d := kb
          cases e5 : rc ρ with
          | none => rw [e5] at h4; cases h4
          | some zz =>
            rw [e5] at h4
            refine sc' F3 H3 σ ρ zz R3 e5 _ fun p' F4 H4 s4 g4 f4 r4 => hg F4 H4 u p' y zz d f4 (Rp.mono (g3.1.trans g4.1) _ _ r2) r4 h4 Q fun o F5 H5 s5 g5 f5 r5 => ?_
            exact q o F5 H5 ((((s1.trans s2).trans s3).trans s4).trans s5) ((((g1.trans s1 g2).trans (s1.trans s2) g3).trans ((s1.trans s2).trans s3) g4).trans (((s1.trans s2).trans s3).trans s4) g5) f5 r5
theorem pd_chain {op op' : CmpOp} {r r' : R2} {f g : PyData → PyData → Option PyData} {a b c : Expr} {ra rb rc : E1} {pos : Pos} (ho : ∀ X, C X → OpR X (compareOp op) r) (ho' : ∀ X, C X → OpR X (compareOp op') r')
    (hf : Op2 K r f) (hg : Op2 K r' g) (ha : PEd C K a ra) (hb : PEd C K b rb) (hc : PEd C K c rc) (hm : lastMarks [op, op'] [b, c] = false := by with_unfolding_all rfl) : PEd C K (.Compare a [op, op'] [b, c] pos) (rChain f g ra rb rc) := by
  obtain ⟨ta, ha, sa⟩ := ha.ex
  obtain ⟨tb, hb, sb⟩ := hb.ex
  obtain ⟨tc, hc, sc'⟩ := hc.ex
  exact ⟨tChain r r' ta tb tc, fun X c => pe_chain (ho X c) (ho' X c) (ha X c) (hb X c) (hc X c) hm, fun F H σ ρ d R e => chain_ev hf hg sa sb sc' R e⟩
theorem ptd_chain {op op' : CmpOp} {r r' : R2} {f g : PyData → PyData → Option PyData} {a b c : Expr} {ra rb rc : E1} {pos : Pos} (ho : ∀ X, C X → OpR X (compareOp op) r) (ho' : ∀ X, C X → OpR X (compareOp op') r')
    (hf : Op2 K r f) (hg : Op2 K r' g) (ha : PEd C K a ra) (hb : PEd C K b rb) (hc : PEd C K c rc) (hm : lastMarks [op, op'] [b, c] = false := by with_unfolding_all rfl) : PTd C K (.Compare a [op, op'] [b, c] pos) (tVal (rChain f g ra rb rc)) := by
  obtain ⟨ta, ha, sa⟩ := ha.ex
  obtain ⟨tb, hb, sb⟩ := hb.ex
  obtain ⟨tc, hc, sc'⟩ := hc.ex
  exact ⟨tTest (tChain r r' ta tb tc), fun X c => pt_chain (ho X c) (ho' X c) (ha X c) (hb X c) (hc X c) hm, fun F H σ ρ d R e => evT_of (chain_ev hf hg sa sb sc' R (tVal_ok e))⟩

/-! ### and, or, not, if -/
theorem pd_one {op} {a : Expr} {ra : E1} {pos : Pos} (h : PEd C K a ra) : PEd C K (.BoolOp op [a] pos) ra := by
  obtain ⟨ta, ha, sa⟩ := h.ex
  exact ⟨ta, fun X c => pe_one (ha X c), sa⟩
theorem pd_and {a b : Expr} {rest : List Expr} {ra rb : E1} {pos : Pos} (ha : PEd C K a ra) (hb : PEd C K (.BoolOp .And (b :: rest) pos) rb) : PEd C K (.BoolOp .And (a :: b :: rest) pos) (rAnd ra rb) := by
  obtain ⟨ta, ha, sa⟩ := ha.ex
  obtain ⟨tb, hb, sb⟩ := hb.ex
  refine ⟨tAndV ta tb, fun X c => pe_and (ha X c) (hb X c), fun F H σ ρ d R e Q q => ?_⟩
  unfold rAnd at e
  split at e
  · rename_i e1
    refine sa F H σ ρ _ R e1 _ fun v F1 H1 s1 g1 f1 r1 => ⟨true, rp_bl r1, ?_⟩
    rw [if_pos rfl]
    exact sb F1 H1 σ ρ d (R.grow s1 g1 f1) e Q fun u F2 H2 s2 g2 f2 r2 => q u F2 H2 (s1.trans s2) (g1.trans s1 g2) f2 r2
  · rename_i e1
    cases e
    refine sa F H σ ρ _ R e1 _ fun v F1 H1 s1 g1 f1 r1 => ⟨false, rp_bl r1, ?_⟩
    rw [if_neg Bool.false_ne_true]
    exact q _ F1 H1 s1 g1 f1 (.bl false)
  · cases e
theorem pd_or {a b : Expr} {rest : List Expr} {ra rb : E1} {pos : Pos} (ha : PEd C K a ra) (hb : PEd C K (.BoolOp .Or (b :: rest) pos) rb) : PEd C K (.BoolOp .Or (a :: b :: rest) pos) (rOr ra rb) := by
  obtain ⟨ta, ha, sa⟩ := ha.ex
  obtain ⟨tb, hb, sb⟩ := hb.ex
  refine ⟨tOrV ta tb, fun X c => pe_or (ha X c) (hb X c), fun F H σ ρ d R e Q q => ?_⟩
  unfold rOr at e
  split at e
  · rename_i e1
    cases e
    refine sa F H σ ρ _ R e1 _ fun v F1 H1 s1 g1 f1 r1 => ⟨true, rp_bl r1, ?_⟩
    rw [if_pos rfl]
    exact q _ F1 H1 s1 g1 f1 (.bl true)
  · rename_i e1
    refine sa F H σ ρ _ R e1 _ fun v F1 H1 s1 g1 f1 r1 => ⟨false, rp_bl r1, ?_⟩
    rw [if_neg Bool.false_ne_true]
    exact sb F1 H1 σ ρ d (R.grow s1 g1 f1) e Q fun u F2 H2 s2 g2 f2 r2 => q u F2 H2 (s1.trans s2) (g1.trans s1 g2) f2 r2
  · cases e
theorem pd_not {a : Expr} {ra : E1} {pos : Pos} (ha : PEd C K a ra) : PEd C K (.UnaryOp .Not a pos) (rNot ra) := by
  obtain ⟨ta, ha, sa⟩ := ha.ex
  refine ⟨tNotV ta, fun X c => pe_not (ha X c), fun F H σ ρ d R e Q q => ?_⟩
  unfold rNot at e
  split at e
  · rename_i b e1
    cases e
    exact sa F H σ ρ _ R e1 _ fun v F1 H1 s1 g1 f1 r1 => ⟨b, rp_bl r1, q _ F1 H1 s1 g1 f1 (.bl _)⟩
  · cases e
theorem pd_if {c a b : Expr} {rc : T1} {ra rb : E1} {pos : Pos} (hc : PTd C K c rc) (ha : PEd C K a ra) (hb : PEd C K b rb) : PEd C K (.IfExp c a b pos) (rIf rc ra rb) := by
  obtain ⟨tc, hc, sc'⟩ := hc.ex
  obtain ⟨ta, ha, sa⟩ := ha.ex
  obtain ⟨tb, hb, sb⟩ := hb.ex
  refine ⟨tIf tc ta tb, fun X c => pe_ifExp (hc X c) (ha X c) (hb X c), fun F H σ ρ d R e Q q => ?_⟩
  unfold rIf at e
  split at e
  · rename_i e1
    refine sc' F H σ ρ true R e1 _ fun H1 s1 => ?_
    rw [if_pos rfl]
    exact sa F H1 σ ρ d (R.grow s1 (Gr.refl F H) (R.ex.trans s1)) e Q fun u F2 H2 s2 g2 f2 r2 => q u F2 H2 (s1.trans s2) ((Gr.refl F H).trans s1 g2) f2 r2
  · rename_i e1
    refine sc' F H σ ρ false R e1 _ fun H1 s1 => ?_
    rw [if_neg Bool.false_ne_true]
    exact sb F H1 σ ρ d (R.grow s1 (Gr.refl F H) (R.ex.trans s1)) e Q fun u F2 H2 s2 g2 f2 r2 => q u F2 H2 (s1.trans s2) ((Gr.refl F H).trans s1 g2) f2 r2
  · cases e
/-- tests -/
theorem ptd_val {e : Expr} {r : E1} (h : PEd C K e r) (he : ∀ env whole, isTrue e env whole = (do let v ← whole; standAt e.pos; holding [v] (truthy v)) := by intro _ _; rfl) : PTd C K e (tVal r) := by
  obtain ⟨te, h, s⟩ := h.ex
  exact ⟨tB te, fun X c => pt_val (h X c) (he X.env), fun F H σ ρ b R e => evT_of (s F H σ ρ _ R (tVal_ok e))⟩
theorem ptd_not {a : Expr} {ra : T1} {pos : Pos} (ha : PTd C K a ra) : PTd C K (.UnaryOp .Not a pos) (tNotD ra) := by
  obtain ⟨ta, ha, sa⟩ := ha.ex
  refine ⟨tNot ta, fun X c => pt_not (ha X c), fun F H σ ρ b R e Q q => ?_⟩
  unfold tNotD at e
  cases e1 : ra ρ with
  | none => rw [e1] at e; cases e
  | some c =>
    rw [e1] at e
    cases e
    exact sa F H σ ρ c R e1 _ fun H1 s1 => q H1 s1
structure PWd (C : Cx → Prop) (K : PySem.W.Frag) (e : Expr) (r : T1) : Prop where
  ex : ∃ tt, (∀ X, C X → PW X e tt) ∧ ∀ F H σ ρ b, Rel K F H σ ρ → r ρ = some b → EvT tt σ H b
theorem pwd_and1 {a : Expr} {ra : T1} {pos : Pos} (h : PTd C K a ra) : PWd C K (.BoolOp .And [a] pos) ra := by
  obtain ⟨ta, ha, sa⟩ := h.ex
  exact ⟨ta, fun X c => pw_and1 (ha X c), sa⟩
theorem pwd_or1 {a : Expr} {ra : T1} {pos : Pos} (h : PTd C K a ra) : PWd C K (.BoolOp .Or [a] pos) ra := by
  obtain ⟨ta, ha, sa⟩ := h.ex
  exact ⟨ta, fun X c => pw_or1 (ha X c), sa⟩
theorem pwd_and {a b : Expr} {rest : List Expr} {ra rb : T1} {pos : Pos} (ha : PTd C K a ra) (hb : PWd C K (.BoolOp .And (b :: rest) pos) rb) : PWd C K (.BoolOp .And (a :: b :: rest) pos) (tAndD ra rb) := by
  obtain ⟨ta, ha, sa⟩ := ha.ex
  obtain ⟨tb, hb, sb⟩ := hb.ex
  refine ⟨tAnd ta tb, fun X c => pw_and (ha X c) (hb X c), fun F H σ ρ d R e Q q => ?_⟩
  unfold tAndD at e
  split at e
  · rename_i e1
    refine sa F H σ ρ true R e1 _ fun H1 s1 => ?_
    rw [if_pos rfl]
    exact sb F H1 σ ρ d (R.grow s1 (Gr.refl F H) (R.ex.trans s1)) e Q fun H2 s2 => q H2 (s1.trans s2)
  · rename_i e1
    cases e
    refine sa F H σ ρ false R e1 _ fun H1 s1 => ?_
    rw [if_neg Bool.false_ne_true]
    exact q H1 s1
  · cases e
theorem pwd_or {a b : Expr} {rest : List Expr} {ra rb : T1} {pos : Pos} (ha : PTd C K a ra) (hb : PWd C K (.BoolOp .Or (b :: rest) pos) rb) : PWd C K (.BoolOp .Or (a :: b :: rest) pos) (tOrD ra rb) := by
  obtain ⟨ta, ha, sa⟩ := ha.ex
  obtain ⟨tb, hb, sb⟩ := hb.ex
  refine ⟨tOr ta tb, fun X c => pw_or (ha X c) (hb X c), fun F H σ ρ d R e Q q => ?_⟩
  unfold tOrD at e
  split at e
  · rename_i e1
    cases e
    refine sa F H σ ρ true R e1 _ fun H1 s1 => ?_
    rw [if_pos rfl]
    exact q H1 s1
  · rename_i e1
    refine sa F H σ ρ false R e1 _ fun H1 s1 => ?_
    rw [if_neg Bool.false_ne_true]
    exact sb F H1 σ ρ d (R.grow s1 (Gr.refl F H) (R.ex.trans s1)) e Q fun H2 s2 => q H2 (s1.trans s2)
  · cases e
theorem PWd.pt {e : Expr} {r : T1} (h : PWd C K e r) : PTd C K e r := by
  obtain ⟨t, h, s⟩ := h.ex
  exact ⟨t, fun X c => PW.pt (h X c), s⟩

/-! ### arguments, displays -/
theorem pad_nil : PAd C K [] aNil := ⟨tNil, fun _ _ => pa_nil, fun F H σ ρ ds R e Q q => by
  cases e
  exact q [] F H (Same.refl H) (Gr.refl F H) R.ex .nil⟩
theorem aCons_ok {a : E1} {t : A1} {ρ : Sl} {ds : List PyData} (e : aCons a t ρ = some ds) : ∃ d r, a ρ = some d ∧ t ρ = some r ∧ ds = d :: r := by
  unfold aCons at e
  cases e1 : a ρ with
  | none => rw [e1] at e; cases e
  | some d =>
    rw [e1] at e
    have e' : (t ρ).map (fun ds => d :: ds) = some ds := e
    cases e2 : t ρ with
    | none => rw [e2] at e'; cases e'
    | some r =>
      rw [e2] at e'
      exact ⟨d, r, rfl, rfl, (Option.some.inj e').symm⟩
theorem pad_cons {e : Expr} {es : List Expr} {a : E1} {t : A1} (ha : PEd C K e a) (ht : PAd C K es t) (hs : ∀ env, starEach (e :: es) env = (false, eval e env) :: starEach es env := by intro _; rfl) : PAd C K (e :: es) (aCons a t) := by
  obtain ⟨ta, ha, sa⟩ := ha.ex
  obtain ⟨tt, ht, st⟩ := ht.ex
  refine ⟨tCons ta tt, fun X c => pa_cons (ha X c) (ht X c) (hs X.env), fun F H σ ρ ds R e Q q => ?_⟩
  obtain ⟨d, r, e1, e2, rfl⟩ := aCons_ok e
  exact sa F H σ ρ d R e1 _ fun v F1 H1 s1 g1 f1 r1 => st F1 H1 σ ρ r (R.grow s1 g1 f1) e2 _ fun vs F2 H2 s2 g2 f2 r2 => q _ F2 H2 (s1.trans s2) (g1.trans s1 g2) f2 (.cons (Rp.mono g2.1 _ _ r1) r2)
theorem pad_star {e : Expr} {p : Pos} {es : List Expr} {a : E1} {t : A1} (Z : Fam C P w K mg base N sc k top) (ha : PEd C K e a) (ht : PAd C K es t) : PAd C K (.Starred e p :: es) (aStar a t) := by
  obtain ⟨ta, ha, sa⟩ := ha.ex
  obtain ⟨tt, ht, st⟩ := ht.ex
  refine ⟨StX.tStar K ta tt, fun X c => by have := StX.pa_star (p := p) (ha X c) (ht X c); rw [Z.K_ X c] at this; exact this, fun F H σ ρ ds R e Q q => ?_⟩
  unfold aStar at e
  cases e1 : a ρ with
  | none => rw [e1] at e; cases e
  | some d =>
    rw [e1] at e
    have e' : (seqOf d).bind (fun xs => (t ρ).map fun ds => xs ++ ds) = some ds := e
    cases e2 : seqOf d with
    | none => rw [e2] at e'; cases e'
    | some xs =>
      rw [e2] at e'
      have e'' : (t ρ).map (fun ds => xs ++ ds) = some ds := e'
      cases e3 : t ρ with
      | none => rw [e3] at e''; cases e''
      | some r =>
        rw [e3] at e''
        have hd : xs ++ r = ds := Option.some.inj e''
        subst hd
        refine sa F H σ ρ d R e1 _ fun v F1 H1 s1 g1 f1 r1 => ?_
        have hv : ∃ p us, v = .ref p ∧ (SqT K H1 p us ∨ SqL K H1 p us) ∧ RpAll K F1 us xs := by
          cases d <;> simp [seqOf] at e2
          · subst e2
            obtain ⟨p, us, e, h1, h2⟩ := rp_lst r1
            exact ⟨p, us, e, .inr (.inl (.inl (f1 _ _ h1))), h2⟩
          · subst e2
            obtain ⟨p, us, e, h1, h2⟩ := rp_tup r1
            exact ⟨p, us, e, .inl (sqT_mono f1 h1), h2⟩
        obtain ⟨p, us, e, h1, h2⟩ := hv
        exact ⟨p, us, e, h1, st F1 H1 σ ρ r (R.grow s1 g1 f1) e3 _ fun vs F2 H2 s2 g2 f2 r2 => q _ F2 H2 (s1.trans s2) (g1.trans s1 g2) f2 ((RpAll.mono g2.1 _ _ h2).append r2)⟩
def mkTup (ds : List PyData) : Option PyData := if ds.length ≤ 16777216 then some (.tuple ds) else none
def mkLst (ds : List PyData) : Option PyData := if ds.length ≤ 16777216 then some (.list ds) else none
theorem pd_tup {es : List Expr} {x1} {t : A1} {pos : Pos} (h : PAd C K es t) : PEd C K (.Tuple es x1 pos) (rA mkTup t) := by
  obtain ⟨ta, ha, sa⟩ := h.ex
  refine ⟨tTup ta, fun X c => pe_tup (ha X c), fun F H σ ρ d R e Q q => ?_⟩
  obtain ⟨ds, e1, e2⟩ := bindA e
  unfold mkTup at e2
  split at e2
  · rename_i hl
    cases e2
    refine sa F H σ ρ ds R e1 _ fun vs F1 H1 s1 g1 f1 r1 => ⟨by rw [r1.length, sizeLine_eq]; exact hl, fun p hp => ?_⟩
    exact q _ (upd F1 p (.tup vs)) _ (s1.trans (same_upd hp)) (g1.trans s1 (gr_upd f1 hp)) (same_updB f1) (.tup (.inl (.inl upd_same)) (RpAll.mono (same_upd (f1.free hp)) _ _ r1))
  · cases e2
theorem pd_lst {es : List Expr} {t : A1} {pos : Pos} (h : PAd C K es t) : PEd C K (.List es pos) (rA mkLst t) := by
  obtain ⟨ta, ha, sa⟩ := h.ex
  refine ⟨tLst ta, fun X c => pe_lst (ha X c), fun F H σ ρ d R e Q q => ?_⟩
  obtain ⟨ds, e1, e2⟩ := bindA e
  unfold mkLst at e2
  split at e2
  · rename_i hl
    cases e2
    refine sa F H σ ρ ds R e1 _ fun vs F1 H1 s1 g1 f1 r1 => ⟨by rw [r1.length, sizeLine_eq]; exact hl, fun p hp => ?_⟩
    exact q _ (upd F1 p (.lst vs)) _ (s1.trans (same_upd hp)) (g1.trans s1 (gr_upd f1 hp)) (same_updB f1) (.lst upd_same (RpAll.mono (same_upd (f1.free hp)) _ _ r1))
  · cases e2

/-! ### subscripts, slices -/
theorem pd_ix {r : R2} {f : PyData → PyData → Option PyData} {a b : Expr} {ra rb : E1} {pos : Pos} (hr : ∀ X, C X → IxR X r) (hf : Op2 K r f) (ha : PEd C K a ra) (hb : PEd C K b rb) (hs : PlainIx b := by exact fun _ _ => rfl) : PEd C K (.Subscript a b pos) (rE2 f ra rb) := by
  obtain ⟨ta, ha, sa⟩ := ha.ex
  obtain ⟨tb, hb, sb⟩ := hb.ex
  refine ⟨tOp r ta tb, fun X c => pe_ix (hr X c) (ha X c) (hb X c) hs, fun F H σ ρ d R e => ?_⟩
  obtain ⟨x, y, e1, e2, e3⟩ := bind2 e
  exact ev_r2 R (sa F H σ ρ x R e1) (fun F1 H1 R1 => sb F1 H1 σ ρ y R1 e2) fun F H v u s rv ru => hf F H v u x y d s rv ru e3

/-! ### built-ins by name, methods of texts -/
theorem pd_cb {id : String} {r : List V → Hp → VK → Prop} {f : List PyData → Option PyData} {x : Str} {e : Expr} {es : List Expr} {t : A1} {p pos : Pos} (Z : Fam C P w K mg base N sc k top) (hc : ∀ X, C X → CallR X (.builtin id) r) (hf : OpC K r f)
    (hm : mg x = none) (hv : bootBuiltins x = some (.builtin id)) (ha : PAd C K (e :: es) t) (h : okG sc x = true) (he : ∀ env, starEach (e :: es) env = (false, eval e env) :: starEach es env := by intro _; rfl)
    (hpl : ∀ env, (backTo pos (starEach es env)).any (·.1) = false := by intro _; rfl) : PEd C K (.Call (.Name x p) (e :: es) [] pos) (rA f t) := by
  unfold okG at h
  simp only [Bool.and_eq_true] at h
  obtain ⟨ta, ha, sa⟩ := ha.ex
  refine ⟨tCB r ta, fun X c => pe_callB (hc X c) (Z.gl h.1 c) (by rw [Z.mg_ X c]; exact hm) hv (ha X c) (plainN_n h.2) (plainN_d h.2) (he X.env) (hpl X.env), fun F H σ ρ d R e Q q => ?_⟩
  obtain ⟨ds, e1, e2⟩ := bindA e
  exact sa F H σ ρ ds R e1 _ fun vs F1 H1 s1 g1 f1 r1 => hf F1 H1 vs ds d f1 r1 e2 Q fun u F2 H2 s2 g2 f2 r2 => q u F2 H2 (s1.trans s2) (g1.trans s1 g2) f2 r2
theorem pd_ct {T : String} {r : List V → Hp → VK → Prop} {f : List PyData → Option PyData} {x : Str} {e : Expr} {es : List Expr} {t : A1} {p pos : Pos} (Z : Fam C P w K mg base N sc k top) (hc : ∀ X, C X → CallR X (.type T) r) (hf : OpC K r f)
    (hm : mg x = none) (hv : bootBuiltins x = some (.type T)) (ha : PAd C K (e :: es) t) (h : okG sc x = true) (he : ∀ env, starEach (e :: es) env = (false, eval e env) :: starEach es env := by intro _; rfl)
    (hpl : ∀ env, (backTo pos (starEach es env)).any (·.1) = false := by intro _; rfl) : PEd C K (.Call (.Name x p) (e :: es) [] pos) (rA f t) := by
  unfold okG at h
  simp only [Bool.and_eq_true] at h
  obtain ⟨ta, ha, sa⟩ := ha.ex
  refine ⟨tCB r ta, fun X c => pe_callTy (hc X c) (Z.gl h.1 c) (by rw [Z.mg_ X c]; exact hm) hv (ha X c) (plainN_n h.2) (plainN_d h.2) (he X.env) (hpl X.env), fun F H σ ρ d R e Q q => ?_⟩
  obtain ⟨ds, e1, e2⟩ := bindA e
  exact sa F H σ ρ ds R e1 _ fun vs F1 H1 s1 g1 f1 r1 => hf F1 H1 vs ds d f1 r1 e2 Q fun u F2 H2 s2 g2 f2 r2 => q u F2 H2 (s1.trans s2) (g1.trans s1 g2) f2 r2
end
end Pd

set_option maxHeartbeats 2000000
/-! Pd3: targets, what is walked, comprehensions, statements, defs. -/
namespace Pd
open PySem PySem.Spec PyProof.Rows L2

/-! ### targets -/
abbrev TgD := PyData → Option (List (Nat × PyData))
def gN (i : Nat) : TgD := fun d => some [(i, d)]
def gT (is : List Nat) : TgD := fun d => match d with
  | .tuple ds => if ds.length = is.length then some (is.zip ds) else none
  | _ => none
def gL (is : List Nat) : TgD := fun d => match d with
  | .list ds => if ds.length = is.length then some (is.zip ds) else none
  | _ => none
def setV (σ : L2.St) (l : List (Nat × V)) : L2.St := l.foldl (fun σ p => σ.set p.1 (some p.2)) σ
def setD (ρ : Sl) (l : List (Nat × PyData)) : Sl := l.foldl (fun ρ p => ρ.set p.1 (some (.vl p.2))) ρ
inductive BindV (K : PySem.W.Frag) (F : Hp) : List (Nat × V) → List (Nat × PyData) → Prop
  | nil : BindV K F [] []
  | cons {i : Nat} {v : V} {d : PyData} {m : List (Nat × V)} {l : List (Nat × PyData)} : Rp K F v d → BindV K F m l → BindV K F ((i, v) :: m) ((i, d) :: l)
section
variable {K : PySem.W.Frag} {F F' H H' : Hp}
theorem Rel.sets {σ : L2.St} {ρ : Sl} {m : List (Nat × V)} {l : List (Nat × PyData)} (b : BindV K F m l) : ∀ {σ : L2.St} {ρ : Sl}, Rel K F H σ ρ → Rel K F H (setV σ m) (setD ρ l) := by
  induction b with
  | nil => intro σ ρ R; exact R
  | cons r b ih => intro σ ρ R; exact ih (R.set r)
theorem BindV.mono (e : Same F F') : ∀ {m : List (Nat × V)} {l : List (Nat × PyData)}, BindV K F m l → BindV K F' m l
  | _, _, .nil => .nil
  | _, _, .cons r b => .cons (Rp.mono e _ _ r) (BindV.mono e b)
theorem BindV.idx : ∀ {m : List (Nat × V)} {l : List (Nat × PyData)}, BindV K F m l → m.map (·.1) = l.map (·.1)
  | _, _, .nil => rfl
  | _, _, .cons r b => by rw [List.map_cons, List.map_cons, BindV.idx b]
end
structure PGd (C : Cx → Prop) (K : PySem.W.Frag) (tg : Expr) (g : TgD) : Prop where
  ex : ∃ tgx, (∀ X, C X → PG X tg tgx) ∧ ∀ F H σ v d l, Same F H → Rp K F v d → g d = some l → ∀ Q : L2.St → Hp → Prop, (∀ m, BindV K F m l → Q (setV σ m) H) → tgx v σ H Q
structure PGsd (C : Cx → Prop) (K : PySem.W.Frag) (ts : List Expr) (is : List Nat) : Prop where
  ex : ∃ t, (∀ X, C X → PGs X ts t) ∧ ∀ F H σ vs ds, Same F H → RpAll K F vs ds → ds.length = is.length → ∀ Q : L2.St → Hp → Prop, (∀ m, BindV K F m (is.zip ds) → Q (setV σ m) H) → t vs σ H Q
def okS (N : List Str) (sc : Scope) (top : Bool) (i : Nat) (x : Str) : Bool := decide (N[i]? = some x) && (match sc.names.lookup x with
  | some .local => true
  | some .cell => top
  | _ => false)
section
variable {C : Cx → Prop} {P : Program} {w : World} {K : PySem.W.Frag} {mg : Str → Option Value} {base : Heap} {N : List Str} {sc : Scope} {k : Nat} {top : Bool}
theorem okS_ok (Z : Fam C P w K mg base N sc k top) {i : Nat} {x : Str} (h : okS N sc top i x = true) {X : Cx} (c : C X) :
    X.N[i]? = some x ∧ L2.Loc X.env.scope x ∧ (X.fn x = true ∨ X.env.scope.names.lookup x = some .local) := by
  unfold okS at h
  simp only [Bool.and_eq_true, decide_eq_true_eq] at h
  rw [Z.N_ X c, Z.sc_ X c]
  refine ⟨h.1, ?_⟩
  have h2 := h.2
  unfold L2.Loc
  split at h2
  · rename_i e; exact ⟨.inl e, .inr e⟩
  · rename_i e; exact ⟨.inr e, .inl (Z.fn h2 X c x)⟩
  · cases h2
theorem Fam.ndX (Z : Fam C P w K mg base N sc k top) {X : Cx} (c : C X) : X.N.Nodup := by rw [Z.N_ X c]; exact Z.nd
theorem pgd_name (Z : Fam C P w K mg base N sc k top) (i : Nat) {x : Str} {pos : Pos} (h : okS N sc top i x = true) : PGd C K (.Name x pos) (gN i) :=
  ⟨gName i, fun X c => let z := okS_ok Z h c; pg_name (Z.ndX c) z.1 z.2.1 z.2.2, fun F H σ v d l s r e Q q => by
    cases e
    exact q [(i, v)] (.cons r .nil)⟩
theorem pgsd_nil : PGsd C K [] [] := ⟨gNil, fun _ _ => pgs_nil, fun F H σ vs ds s r hl Q q => by
  cases r with
  | nil => exact ⟨rfl, q [] .nil⟩
  | cons _ _ => simp at hl⟩
theorem pgsd_cons (Z : Fam C P w K mg base N sc k top) (i : Nat) {x : Str} {pos : Pos} {ts : List Expr} {is : List Nat} (h : okS N sc top i x = true) (ht : PGsd C K ts is) : PGsd C K (.Name x pos :: ts) (i :: is) := by
  obtain ⟨t, ht, st⟩ := ht.ex
  refine ⟨gCons (gName i) t, fun X c => let z := okS_ok Z h c; pgs_cons (pg_name (Z.ndX c) z.1 z.2.1 z.2.2) (ht X c), fun F H σ vs ds s r hl Q q => ?_⟩
  cases r with
  | nil => simp at hl
  | @cons v vs d ds r1 r2 =>
    refine ⟨v, vs, rfl, ?_⟩
    show t vs (σ.set i (some v)) H Q
    exact st F H _ vs ds s r2 (by simpa using hl) Q fun m b => q ((i, v) :: m) (.cons r1 b)
theorem pgd_tup (Z : Fam C P w K mg base N sc k top) {es : List Expr} {kk : Nat} {pos : Pos} {is : List Nat} (h : PGsd C K es is) (hn : ∀ env, (assignEach es env).length = is.length := by intro _; rfl)
    (hst : ∀ env, (assignEach es env).findIdx? (·.1) = none := by intro _; rfl) : PGd C K (.Tuple es kk pos) (gT is) := by
  obtain ⟨t, ht, st⟩ := h.ex
  refine ⟨gTup K is.length t, fun X c => by have := pg_tup (k := kk) (pos := pos) (Z.calm X c) (ht X c) (hn X.env) (hst X.env); rw [Z.K_ X c] at this; exact this, fun F H σ v d l s r e Q q => ?_⟩
  unfold gT at e
  split at e
  · split at e
    · rename_i ds hl
      cases e
      obtain ⟨a, vs, rfl, h1, h2⟩ := rp_tup r
      exact ⟨a, vs, rfl, sqT_mono s h1, by rw [h2.length, hl], st F H σ vs ds s h2 hl Q q⟩
    · cases e
  · cases e
theorem pgd_lst (Z : Fam C P w K mg base N sc k top) {es : List Expr} {kk : Nat} {pos : Pos} {is : List Nat} (h : PGsd C K es is) (hn : ∀ env, (assignEach es env).length = is.length := by intro _; rfl)
    (hst : ∀ env, (assignEach es env).findIdx? (·.1) = none := by intro _; rfl) : PGd C K (.Tuple es kk pos) (gL is) := by
  obtain ⟨t, ht, st⟩ := h.ex
  refine ⟨gUnl K is.length t, fun X c => by have := pg_unl (k := kk) (pos := pos) (Z.calm X c) (ht X c) (hn X.env) (hst X.env); rw [Z.K_ X c] at this; exact this, fun F H σ v d l s r e Q q => ?_⟩
  unfold gL at e
  split at e
  · split at e
    · rename_i ds hl
      cases e
      obtain ⟨a, vs, rfl, h1, h2⟩ := rp_lst r
      exact ⟨a, vs, rfl, .inl (.inl (s _ _ h1)), by rw [h2.length, hl], st F H σ vs ds s h2 hl Q q⟩
    · cases e
  · cases e

/-! ### what is walked -/
structure Walk (K : PySem.W.Frag) (J : It) (F : Hp) (ds : List PyData) : Prop where
  stop : ∀ i H, Same F H → ds.length ≤ i → J.stop i H
  go : ∀ i H d, Same F H → ds[i]? = some d → J.go i H
  yld : ∀ i Fi H d x H', Same F Fi → Same Fi H → ds[i]? = some d → J.yld i H x H' → Same H H' ∧ ∃ F', Gr Fi F' H ∧ Same F' H' ∧ Rp K F' x d
structure PId (C : Cx → Prop) (K : PySem.W.Frag) (tg iter : Expr) (r : A1) : Prop where
  ex : ∃ wi, (∀ X, C X → PI X tg iter wi) ∧ ∀ F H σ ρ ds, Rel K F H σ ρ → r ρ = some ds → ∀ R : It → Hp → Prop, (∀ J F1 H1, Same H H1 → Gr F F1 H → Same F1 H1 → Walk K J F1 ds → R J H1) → wi σ H R
theorem sqL_inj' {H : Hp} {a : Addr} {xs ys : List V} (h : H a = some (.lst xs)) (h' : Rd H a (.lst ys)) : xs = ys := by
  rcases h' with h' | ⟨o, h'⟩
  · rw [h] at h'; cases h'; rfl
  · rw [h] at h'; cases h'
theorem walk_list {F : Hp} {a : Addr} {vs : List V} {ds : List PyData} (h : F a = some (.lst vs)) (r : RpAll K F vs ds)
    (uniq : ∀ H ys, Same F H → SqL K H a ys → ys = vs) : Walk K (Itl K a) F ds where
  stop := fun i H s hl => ⟨vs, .inl (.inl (s _ _ h)), by rw [r.length]; exact hl⟩
  go := fun i H d s hd => let ⟨v, hv, _⟩ := r.get hd; ⟨vs, v, .inl (.inl (s _ _ h)), hv⟩
  yld := fun i Fi H d x H' s1 s2 hd hy => by
    obtain ⟨rfl, hy⟩ := hy
    obtain ⟨v, hv, rv⟩ := r.get hd
    have e := hy vs (.inl (.inl (s2 _ _ (s1 _ _ h))))
    rw [hv] at e
    cases e
    exact ⟨Same.refl _, Fi, Gr.refl _ _, s2, Rp.mono s1 _ _ rv⟩
/-- a list -/
def aList (a : E1) : A1 := fun ρ => match a ρ with
  | some (.list ds) => some ds
  | _ => none
def aTup (a : E1) : A1 := fun ρ => match a ρ with
  | some (.tuple ds) => some ds
  | _ => none
def signs (x : Str) : List PyData := x.cps.toList.map fun c => .str ⟨#[c]⟩
def aStr (a : E1) : A1 := fun ρ => match a ρ with
  | some (.str x) => some (signs x)
  | _ => none
theorem pid_list (Z : Fam C P w K mg base N sc k top) {tg l : Expr} {a : E1} (h : PEd C K l a) : PId C K tg l (aList a) := by
  obtain ⟨t, h, s⟩ := h.ex
  refine ⟨iList K t, fun X c => by have := pi_list (tg := tg) (h X c); rw [Z.K_ X c] at this; exact this, fun F H σ ρ ds R e W q => ?_⟩
  unfold aList at e
  split at e
  · rename_i ds' e1
    cases e
    refine s F H σ ρ _ R e1 _ fun v F1 H1 s1 g1 f1 r1 => ?_
    obtain ⟨p, vs, rfl, h1, h2⟩ := rp_lst r1
    refine ⟨p, rfl, ⟨vs, .inl (.inl (f1 _ _ h1))⟩, q _ F1 H1 s1 g1 f1 ⟨fun i H s hl => ⟨vs, .inl (.inl (s _ _ h1)), by rw [h2.length]; exact hl⟩, fun i H d s hd => ?_, fun i Fi H d x H' s1 s2 hd hy => ?_⟩⟩
    · obtain ⟨v, hv, _⟩ := h2.get hd
      exact ⟨vs, v, .inl (.inl (s _ _ h1)), hv⟩
    · obtain ⟨rfl, hy⟩ := hy
      obtain ⟨v, hv, rv⟩ := h2.get hd
      have e := hy vs (.inl (.inl (s2 _ _ (s1 _ _ h1))))
      rw [hv] at e
      cases e
      exact ⟨Same.refl _, Fi, Gr.refl _ _, s2, Rp.mono s1 _ _ rv⟩
  · cases e
theorem pid_tup (Z : Fam C P w K mg base N sc k top) {tg l : Expr} {a : E1} (h : PEd C K l a) : PId C K tg l (aTup a) := by
  obtain ⟨t, h, s⟩ := h.ex
  refine ⟨iTup K t, fun X c => by have := pi_tup (tg := tg) (h X c); rw [Z.K_ X c] at this; exact this, fun F H σ ρ ds R e W q => ?_⟩
  unfold aTup at e
  split at e
  · rename_i ds' e1
    cases e
    refine s F H σ ρ _ R e1 _ fun v F1 H1 s1 g1 f1 r1 => ?_
    obtain ⟨p, vs, rfl, h1, h2⟩ := rp_tup r1
    refine ⟨p, rfl, ⟨vs, sqT_mono f1 h1⟩, q _ F1 H1 s1 g1 f1 ⟨fun i H s hl => ⟨vs, sqT_mono s h1, by rw [h2.length]; exact hl⟩, fun i H d s hd => ?_, fun i Fi H d x H' s1 s2 hd hy => ?_⟩⟩
    · obtain ⟨v, hv, _⟩ := h2.get hd
      exact ⟨vs, v, sqT_mono s h1, hv⟩
    · obtain ⟨rfl, hy⟩ := hy
      obtain ⟨v, hv, rv⟩ := h2.get hd
      have e := hy vs (sqT_mono (s1.trans s2) h1)
      rw [hv] at e
      cases e
      exact ⟨Same.refl _, Fi, Gr.refl _ _, s2, Rp.mono s1 _ _ rv⟩
  · cases e
theorem pid_str {tg l : Expr} {a : E1} (h : PEd C K l a) : PId C K tg l (aStr a) := by
  obtain ⟨t, h, s⟩ := h.ex
  refine ⟨iStr t, fun X c => pi_str (h X c), fun F H σ ρ ds R e W q => ?_⟩
  unfold aStr at e
  split at e
  · rename_i x e1
    cases e
    refine s F H σ ρ _ R e1 _ fun v F1 H1 s1 g1 f1 r1 => ⟨x, rp_str r1, q _ F1 H1 s1 g1 f1 ⟨fun i H s hl => ?_, fun i H d s hd => ?_, fun i Fi H d x' H' s1 s2 hd hy => ?_⟩⟩
    · unfold signs at hl
      show x.cps.size ≤ i
      simpa using hl
    · unfold signs at hd
      show i < x.cps.size
      have := (List.getElem?_eq_some_iff.mp hd).1
      simpa using this
    · obtain ⟨rfl, c, hc, rfl⟩ := hy
      unfold signs at hd
      rw [List.getElem?_map] at hd
      have e2 : x.cps.toList[i]? = some c := by rw [Array.getElem?_toList]; exact hc
      rw [e2] at hd
      cases hd
      exact ⟨Same.refl _, Fi, Gr.refl _ _, s2, .str _⟩
  · cases e
/-- zip of two lists, of two tuples -/
def zipD : List PyData → List PyData → List PyData
  | x :: xs, y :: ys => .tuple [x, y] :: zipD xs ys
  | _, _ => []
theorem zipD_get : ∀ {xs ys : List PyData} {i : Nat} {d : PyData}, (zipD xs ys)[i]? = some d → ∃ x y, xs[i]? = some x ∧ ys[i]? = some y ∧ d = .tuple [x, y]
  | x :: xs, y :: ys, 0, d, h => by
    have h1 : some (PyData.tuple [x, y]) = some d := by simpa [zipD] using h
    exact ⟨x, y, rfl, rfl, (Option.some.inj h1).symm⟩
  | x :: xs, y :: ys, i + 1, d, h => by
    have h1 : (zipD xs ys)[i]? = some d := by simpa [zipD] using h
    obtain ⟨a, b, e1, e2, e3⟩ := zipD_get h1
    exact ⟨a, b, by simpa using e1, by simpa using e2, e3⟩
  | [], _, _, _, h => by simp [zipD] at h
  | _ :: _, [], _, _, h => by simp [zipD] at h
theorem zipD_len : ∀ {xs ys : List PyData} {i : Nat}, (zipD xs ys).length ≤ i → xs.length ≤ i ∨ ys.length ≤ i
  | x :: xs, y :: ys, 0, h => by simp [zipD] at h
  | x :: xs, y :: ys, i + 1, h => by
    have h1 : (zipD xs ys).length ≤ i := by simpa [zipD] using h
    rcases zipD_len h1 with e | e
    · exact .inl (by simpa using e)
    · exact .inr (by simpa using e)
  | [], _, _, _ => .inl (Nat.zero_le _)
  | _ :: _, [], _, _ => .inr (Nat.zero_le _)
def aZip (a : A1) : A1 := fun ρ => match a ρ with
  | some [.list xs, .list ys] => some (zipD xs ys)
  | some [.tuple xs, .tuple ys] => some (zipD xs ys)
  | _ => none
theorem pid_zip (Z : Fam C P w K mg base N sc k top) {e e2 : Expr} {a : A1} {p pos tpos : Pos} {elts : List Expr} {kk : Nat} (hm : mg "zip" = none) (ha : PAd C K [e, e2] a) (h : okG sc "zip" = true)
    (hs : ∀ env, starEach [e, e2] env = (false, eval e env) :: starEach [e2] env := by intro _; rfl) (hpl : ∀ env, (backTo pos (starEach [e2] env)).any (·.1) = false := by intro _; rfl) :
    PId C K (.Tuple elts kk tpos) (.Call (.Name "zip" p) [e, e2] [] pos) (aZip a) := by
  unfold okG at h
  simp only [Bool.and_eq_true] at h
  obtain ⟨ta, ha, sa⟩ := ha.ex
  refine ⟨RZ.iZipA K ta, fun X c => by have := RZ.pi_zipA (p := p) (tpos := tpos) (elts := elts) (kk := kk) (Z.gl h.1 c) (by rw [Z.mg_ X c]; exact hm) (ha X c) (hs X.env) (hpl X.env); rw [Z.K_ X c] at this; exact this, fun F H σ ρ ds R e W q => ?_⟩
  have new : ∀ {Fi Hi : Hp} {T : Addr} {v u : V} {x y : PyData}, Same Fi Hi → Hi T = none → Rp K Fi v x → Rp K Fi u y → Same Hi (upd Hi T (.tup [v, u])) ∧ ∃ F', Gr Fi F' Hi ∧ Same F' (upd Hi T (.tup [v, u])) ∧ Rp K F' (.ref T) (.tuple [x, y]) :=
    fun {Fi Hi T v u x y} s hT r1 r2 => ⟨same_upd hT, upd Fi T (.tup [v, u]), gr_upd s hT, same_updB s, .tup (.inl (.inl upd_same)) (.cons (Rp.mono (same_upd (s.free hT)) _ _ r1) (.cons (Rp.mono (same_upd (s.free hT)) _ _ r2) .nil))⟩
  unfold aZip at e
  split at e
  · rename_i xs ys e1
    cases e
    refine sa F H σ ρ _ R e1 _ fun vs F1 H1 s1 g1 f1 r1 => ?_
    cases r1 with
    | cons r1 r2 => cases r2 with
      | cons r2 r3 =>
        cases r3
        obtain ⟨pa, us, rfl, h1, h2⟩ := rp_lst r1
        obtain ⟨pb, ws, rfl, h3, h4⟩ := rp_lst r2
        refine ⟨pa, pb, us, ws, rfl, .inl ⟨.inl (.inl (f1 _ _ h1)), .inl (.inl (f1 _ _ h3)), q _ F1 H1 s1 g1 f1 ⟨fun i H s hl => ?_, fun i H d s hd => ?_, fun i Fi H d x H' sa sb hd hy => ?_⟩⟩⟩
        · exact ⟨us, ws, .inl (.inl (s _ _ h1)), .inl (.inl (s _ _ h3)), by rw [h2.length, h4.length]; exact zipD_len hl⟩
        · obtain ⟨x, y, hx, hy, _⟩ := zipD_get hd
          obtain ⟨v, hv, _⟩ := h2.get hx
          obtain ⟨u, hu, _⟩ := h4.get hy
          exact ⟨us, ws, v, u, .inl (.inl (s _ _ h1)), .inl (.inl (s _ _ h3)), hv, hu⟩
        · obtain ⟨T, v, u, rfl, hT, rfl, hv, hu⟩ := hy
          obtain ⟨x, y, hx, hy, rfl⟩ := zipD_get hd
          obtain ⟨v', hv', rv⟩ := h2.get hx
          obtain ⟨u', hu', ru⟩ := h4.get hy
          have e1 := hv us (.inl (.inl (sb _ _ (sa _ _ h1))))
          have e2 := hu ws (.inl (.inl (sb _ _ (sa _ _ h3))))
          rw [hv'] at e1
          rw [hu'] at e2
          cases e1
          cases e2
          exact new sb hT (Rp.mono sa _ _ rv) (Rp.mono sa _ _ ru)
  · rename_i xs ys e1
    cases e
    refine sa F H σ ρ _ R e1 _ fun vs F1 H1 s1 g1 f1 r1 => ?_
    cases r1 with
    | cons r1 r2 => cases r2 with
      | cons r2 r3 =>
        cases r3
        obtain ⟨pa, us, rfl, h1, h2⟩ := rp_tup r1
        obtain ⟨pb, ws, rfl, h3, h4⟩ := rp_tup r2
        refine ⟨pa, pb, us, ws, rfl, .inr ⟨sqT_mono f1 h1, sqT_mono f1 h3, q _ F1 H1 s1 g1 f1 ⟨fun i H s hl => ?_, fun i H d s hd => ?_, fun i Fi H d x H' sa sb hd hy => ?_⟩⟩⟩
        · exact ⟨us, ws, sqT_mono s h1, sqT_mono s h3, by rw [h2.length, h4.length]; exact zipD_len hl⟩
        · obtain ⟨x, y, hx, hy, _⟩ := zipD_get hd
          obtain ⟨v, hv, _⟩ := h2.get hx
          obtain ⟨u, hu, _⟩ := h4.get hy
          exact ⟨us, ws, v, u, sqT_mono s h1, sqT_mono s h3, hv, hu⟩
        · obtain ⟨T, v, u, rfl, hT, rfl, hv, hu⟩ := hy
          obtain ⟨x, y, hx, hy, rfl⟩ := zipD_get hd
          obtain ⟨v', hv', rv⟩ := h2.get hx
          obtain ⟨u', hu', ru⟩ := h4.get hy
          have e1 := hv us (sqT_mono (sa.trans sb) h1)
          have e2 := hu ws (sqT_mono (sa.trans sb) h3)
          rw [hv'] at e1
          rw [hu'] at e2
          cases e1
          cases e2
          exact new sb hT (Rp.mono sa _ _ rv) (Rp.mono sa _ _ ru)
  · cases e

/-! ### comprehensions -/
def Blk (C : Cx → Prop) (scope : Scope) : Cx → Prop := fun Y => ∃ X s H cl A fp, C X ∧ Y = X.blk s H scope (compEnvC scope cl A X.env) fp
theorem Fam.blk (Z : Fam C P w K mg base N sc k top) (scope : Scope) : Fam (Blk C scope) P w K mg base N (relS scope sc) k false where
  prog := fun Y ⟨X, s, H, cl, A, fp, c, e⟩ => by subst e; exact Z.prog X c
  wo := fun Y ⟨X, s, H, cl, A, fp, c, e⟩ => by subst e; exact Z.wo X c
  K_ := fun Y ⟨X, s, H, cl, A, fp, c, e⟩ => by subst e; exact Z.K_ X c
  mg_ := fun Y ⟨X, s, H, cl, A, fp, c, e⟩ => by subst e; exact Z.mg_ X c
  base_ := fun Y ⟨X, s, H, cl, A, fp, c, e⟩ => by subst e; exact Z.base_ X c
  N_ := fun Y ⟨X, s, H, cl, A, fp, c, e⟩ => by subst e; exact Z.N_ X c
  sc_ := fun Y ⟨X, s, H, cl, A, fp, c, e⟩ => by
    subst e
    show relS scope X.env.scope = _
    rw [Z.sc_ X c]
  calm := fun Y ⟨X, s, H, cl, A, fp, c, e⟩ => by subst e; exact Z.calm X c
  room := fun Y ⟨X, s, H, cl, A, fp, c, e⟩ => by subst e; exact Z.room X c
  fn := fun h => nomatch h
  xe := fun Y ⟨X, s, H, cl, A, fp, c, e⟩ => by subst e; rfl
  nd := Z.nd
def tTrue : T1 := fun _ => some true
structure PTsd (C : Cx → Prop) (K : PySem.W.Frag) (ifs : List Expr) (r : T1) : Prop where
  ex : ∃ tt, (∀ X, C X → PTs X ifs tt) ∧ ∀ F H σ ρ b, Rel K F H σ ρ → r ρ = some b → EvT tt σ H b
theorem ptsd_nil : PTsd C K [] tTrue := ⟨tYes, fun _ _ => pts_nil, fun F H σ ρ b R e Q q => by cases e; exact q H (Same.refl H)⟩
theorem ptsd_one {c : Expr} {r : T1} (h : PTd C K c r) : PTsd C K [c] r := by
  obtain ⟨t, h, s⟩ := h.ex
  exact ⟨t, fun X c => pts_one (h X c), s⟩
def lcD (step : PyData → Option (Option PyData)) : List PyData → Option (List PyData)
  | [] => some []
  | d :: r => match step d with
    | some (some x) => (lcD step r).map fun xs => x :: xs
    | some none => lcD step r
    | none => none
def lcStep (g : TgD) (t : T1) (e : E1) (ρ : Sl) (d : PyData) : Option (Option PyData) := match g d with
  | none => none
  | some l => match t (setD ρ l) with
    | some true => (e (setD ρ l)).map some
    | some false => some none
    | none => none
def rLc (src : A1) (g : TgD) (t : T1) (e : E1) (vs : List Nat) : E1 := fun ρ => (src ρ).bind fun ds => if ds.length ≤ 16000000 then (lcD (lcStep g t e (wipeD ρ vs)) ds).map .list else none
theorem wipe_set {σ : L2.St} {x : V} : ∀ {vs : List Nat} {j : Nat}, j ∈ vs → ∀ τ : L2.St, wipe (τ.set j (some x)) vs = wipe τ vs
  | [], _, h, _ => by simp at h
  | v :: vs, j, h, τ => by
    unfold wipe
    by_cases e : j ∈ vs
    · rw [wipe_set (σ := σ) e τ]
    · have : j = v := by simpa [e] using h
      subst this
      have key : ∀ (us : List Nat) (τ : L2.St), j ∉ us → wipe (τ.set j (some x)) us = (wipe τ us).set j (some x) := by
        intro us
        induction us with
        | nil => intro τ _; rfl
        | cons u us ih =>
          intro τ hu
          have h1 : j ≠ u := fun z => hu (by simp [z])
          have h2 : j ∉ us := fun z => hu (by simp [z])
          unfold wipe
          rw [ih τ h2, List.set_comm _ _ h1]
      rw [key vs τ e, List.set_set]
theorem wipe_setV {vs : List Nat} : ∀ {m : List (Nat × V)} (τ : L2.St), (∀ j ∈ m.map (·.1), j ∈ vs) → wipe (setV τ m) vs = wipe τ vs
  | [], _, _ => rfl
  | (j, x) :: m, τ, h => by
    show wipe (setV (τ.set j (some x)) m) vs = wipe τ vs
    rw [wipe_setV (m := m) (τ.set j (some x)) (fun i hi => h i (by simp at hi ⊢; exact .inr hi))]
    exact wipe_set (σ := τ) (h j (by simp)) τ
theorem wipe_idem : ∀ {vs : List Nat} {σ : L2.St}, wipe (wipe σ vs) vs = wipe σ vs := by
  have key : ∀ (us vs : List Nat) (σ : L2.St), (∀ u ∈ us, u ∈ vs) → wipe (wipe σ vs) us = wipe σ vs := by
    intro us
    induction us with
    | nil => intro vs σ _; rfl
    | cons u us ih =>
      intro vs σ h
      show (wipe (wipe σ vs) us).set u none = wipe σ vs
      rw [ih vs σ fun x hx => h x (by simp [hx])]
      have hu := h u (by simp)
      have : ∀ (vs : List Nat), u ∈ vs → (wipe σ vs).set u none = wipe σ vs := by
        intro vs
        induction vs with
        | nil => intro h; simp at h
        | cons v vs ih2 =>
          intro h
          show ((wipe σ vs).set v none).set u none = (wipe σ vs).set v none
          by_cases e : u = v
          · subst e; rw [List.set_set]
          · rw [List.set_comm _ _ (Ne.symm e), ih2 (by simpa [e] using h)]
      exact this vs hu
  intro vs σ
  exact key vs vs σ fun _ h => h
def tgIn (is vs : List Nat) : Bool := is.all fun i => decide (i ∈ vs)
/-- the places a target stores to -/
def TgAt (g : TgD) (is : List Nat) : Prop := ∀ d l, g d = some l → ∀ j ∈ l.map (·.1), j ∈ is
theorem tgAt_n (i : Nat) : TgAt (gN i) [i] := fun d l e j h => by cases e; simpa using h
theorem zip_map_mem {is : List Nat} {ds : List PyData} {j : Nat} (h : j ∈ (is.zip ds).map (·.1)) : j ∈ is := by
  obtain ⟨p, hp, rfl⟩ := List.mem_map.mp h
  exact (List.of_mem_zip hp).1
theorem tgAt_t (is : List Nat) : TgAt (gT is) is := fun d l e j h => by
  unfold gT at e
  split at e
  · split at e
    · cases e; exact zip_map_mem h
    · cases e
  · cases e
theorem tgAt_l (is : List Nat) : TgAt (gL is) is := fun d l e j h => by
  unfold gL at e
  split at e
  · split at e
    · cases e; exact zip_map_mem h
    · cases e
  · cases e
theorem lc_ev {wi : TI} {gx : TG} {tt : TT} {te : TE} {src : A1} {g : TgD} {t : T1} {e : E1} {vs is : List Nat} (hat : TgAt g is) (hin : tgIn is vs = true)
    (si : ∀ F H σ ρ ds, Rel K F H σ ρ → src ρ = some ds → ∀ R : It → Hp → Prop, (∀ J F1 H1, Same H H1 → Gr F F1 H → Same F1 H1 → Walk K J F1 ds → R J H1) → wi σ H R)
    (sg : ∀ F H σ v d l, Same F H → Rp K F v d → g d = some l → ∀ Q : L2.St → Hp → Prop, (∀ m, BindV K F m l → Q (setV σ m) H) → gx v σ H Q)
    (st : ∀ F H σ ρ b, Rel K F H σ ρ → t ρ = some b → EvT tt σ H b) (se : ∀ F H σ ρ d, Rel K F H σ ρ → e ρ = some d → EvD K te σ F H d)
    {F H : Hp} {σ : L2.St} {ρ : Sl} {d : PyData} (R : Rel K F H σ ρ) (h : rLc src g t e vs ρ = some d) : EvD K (tLc wi gx tt te vs) σ F H d := fun Q q => by
  unfold rLc at h
  cases e1 : src ρ with
  | none => rw [e1] at h; cases h
  | some ds =>
    rw [e1] at h
    have h1 : (if ds.length ≤ 16000000 then (lcD (lcStep g t e (wipeD ρ vs)) ds).map PyData.list else none) = some d := h
    split at h1
    · rename_i hz
      cases e2 : lcD (lcStep g t e (wipeD ρ vs)) ds with
      | none => rw [e2] at h1; cases h1
      | some out =>
        rw [e2] at h1
        have hd : PyData.list out = d := Option.some.inj h1
        subst hd
        refine si F H σ ρ ds R e1 _ fun J F1 H1 s1 g1 f1 Wk D hD => ?_
        have R1 := R.grow s1 g1 f1
        refine ⟨fun i m H' => m = ds.length - i ∧ i ≤ ds.length ∧ ∃ F' acc accD rest, Gr F1 F' H1 ∧ Same F' H' ∧ Same H1 H' ∧ H' D = some (.lst acc) ∧ F' D = none ∧ acc.length ≤ i ∧ RpAll K F' acc accD ∧ lcD (lcStep g t e (wipeD ρ vs)) (ds.drop i) = some rest ∧ accD ++ rest = out,
          ⟨ds.length, by simp, Nat.zero_le _, F1, [], [], out, Gr.refl _ _, f1.trans (same_upd hD), same_upd hD, upd_same, f1.free hD, Nat.le_refl _, .nil, by simpa using e2, rfl⟩, ?_⟩
        rintro i m H2 ⟨rfl, hi, F2, acc, accD, rest, g2, f2, s2, hDl, hDf, hal, rA, hrest, hout⟩
        by_cases hlt : i < ds.length
        · obtain ⟨di, hdi⟩ : ∃ di, ds[i]? = some di := ⟨ds[i], by simp [hlt]⟩
          have hdrop : ds.drop i = di :: ds.drop (i + 1) := by
            have := List.drop_eq_getElem_cons hlt
            rw [List.getElem?_eq_getElem hlt] at hdi
            cases hdi
            exact this
          rw [hdrop] at hrest
          refine .inr ⟨Wk.go i H2 di (g2.1.trans f2) hdi, fun H' => ∃ F' acc accD rest, Gr F1 F' H1 ∧ Same F' H' ∧ Same H1 H' ∧ H' D = some (.lst acc) ∧ F' D = none ∧ acc.length ≤ i + 1 ∧ RpAll K F' acc accD ∧ lcD (lcStep g t e (wipeD ρ vs)) (ds.drop (i + 1)) = some rest ∧ accD ++ rest = out, fun H' n => ⟨ds.length - (i + 1), by omega, rfl, hlt, n⟩, fun x H' hy => ?_⟩
          obtain ⟨s3, F3, g3, f3, rx⟩ := Wk.yld i F2 H2 di x H' g2.1 f2 hdi hy
          -- the target
          cases eg : g di with
          | none =>
            have hn : lcStep g t e (wipeD ρ vs) di = none := by unfold lcStep; rw [eg]
            unfold lcD at hrest
            rw [hn] at hrest
            cases hrest
          | some l =>
            refine sg F3 H' _ x di l f3 rx eg _ fun mm bm => ⟨?_, ?_⟩
            · rw [wipe_setV _ fun j hj => ?_, wipe_idem]
              rw [bm.idx] at hj
              have := hat di l eg j hj
              have := List.all_eq_true.mp hin j this
              exact of_decide_eq_true this
            · have hD3 : F3 D = none := by
                cases z : F3 D with
                | none => rfl
                | some o =>
                  rcases g3.2 D o z with z' | z'
                  · rw [hDf] at z'; cases z'
                  · rw [hDl] at z'; cases z'
              have g13 : Gr F1 F3 H1 := ⟨g2.1.trans g3.1, fun a o z => by
                rcases g3.2 a o z with z' | z'
                · exact g2.2 a o z'
                · exact .inr (s2.free z')⟩
              have R3 : Rel K F3 H' (setV (wipe σ vs) mm) (setD (wipeD ρ vs) l) := Rel.sets (σ := σ) (ρ := ρ) bm ((R1.grow (s2.trans s3) g13 f3).wipe vs)
              cases et : t (setD (wipeD ρ vs) l) with
              | none =>
                have hn : lcStep g t e (wipeD ρ vs) di = none := by unfold lcStep; rw [eg]; simp only [et]
                unfold lcD at hrest
                rw [hn] at hrest
                cases hrest
              | some b =>
                refine st F3 H' _ _ b R3 et _ fun H3 s4 => ?_
                have R4 := R3.grow s4 (Gr.refl F3 H') (f3.trans s4)
                cases b with
                | false =>
                  rw [if_neg Bool.false_ne_true]
                  have hn : lcStep g t e (wipeD ρ vs) di = some none := by unfold lcStep; rw [eg]; simp only [et]
                  unfold lcD at hrest
                  rw [hn] at hrest
                  exact ⟨F3, acc, accD, rest, g13, f3.trans s4, (s2.trans s3).trans s4, s4 _ _ (s3 _ _ hDl), hD3, Nat.le_succ_of_le hal, RpAll.mono g3.1 _ _ rA, hrest, hout⟩
                | true =>
                  rw [if_pos rfl]
                  cases ee : e (setD (wipeD ρ vs) l) with
                  | none =>
                    have hn : lcStep g t e (wipeD ρ vs) di = none := by unfold lcStep; rw [eg]; simp only [et, ee]; rfl
                    unfold lcD at hrest
                    rw [hn] at hrest
                    cases hrest
                  | some y =>
                    have hn : lcStep g t e (wipeD ρ vs) di = some (some y) := by unfold lcStep; rw [eg]; simp only [et, ee]; rfl
                    unfold lcD at hrest
                    rw [hn] at hrest
                    cases er : lcD (lcStep g t e (wipeD ρ vs)) (ds.drop (i + 1)) with
                    | none => rw [er] at hrest; cases hrest
                    | some rest2 =>
                      rw [er] at hrest
                      have hr2 : y :: rest2 = rest := Option.some.inj hrest
                      refine se F3 H3 _ _ y R4 ee _ fun yv F5 H5 s5 g5 f5 r5 => ?_
                      have hD5 : F5 D = none := by
                        cases z : F5 D with
                        | none => rfl
                        | some o =>
                          rcases g5.2 D o z with z' | z'
                          · rw [hD3] at z'; cases z'
                          · rw [s4 _ _ (s3 _ _ hDl)] at z'; cases z'
                      refine ⟨acc, s5 _ _ (s4 _ _ (s3 _ _ hDl)), by rw [sizeLine_eq]; omega, F5, acc ++ [yv], accD ++ [y], rest2, ⟨g13.1.trans g5.1, fun a o z => ?_⟩, ?_, ?_, upd_same, hD5, by simp; omega, (RpAll.mono (g3.1.trans g5.1) _ _ rA).append (.cons r5 .nil), rfl, ?_⟩
                      · rcases g5.2 a o z with z' | z'
                        · exact g13.2 a o z'
                        · exact .inr (((s2.trans s3).trans s4).free z')
                      · intro a o z
                        by_cases ea : a = D
                        · subst ea; rw [hD5] at z; cases z
                        · rw [upd_ne ea]; exact f5 a o z
                      · intro a o z
                        have ea : a ≠ D := fun ea => by subst ea; rw [hD] at z; cases z
                        rw [upd_ne ea]
                        exact s5 _ _ (s4 _ _ (s3 _ _ (s2 _ _ z)))
                      · rw [← hout, ← hr2, List.append_assoc]
                        rfl
        · have ei : i = ds.length := by omega
          subst ei
          rw [List.drop_length] at hrest
          have hr : rest = [] := by
            unfold lcD at hrest
            exact (Option.some.inj hrest).symm
          subst hr
          rw [List.append_nil] at hout
          subst hout
          refine .inl ⟨Wk.stop _ H2 (g2.1.trans f2) (Nat.le_refl _), q (.ref D) (upd F2 D (.lst acc)) H2 (s1.trans s2) ?_ ?_ (.lst upd_same (RpAll.mono (same_upd hDf) _ _ rA))⟩
          · refine ⟨(g1.1.trans g2.1).trans (same_upd hDf), fun a o z => ?_⟩
            by_cases ea : a = D
            · subst ea; exact .inr (s1.free hD)
            · rw [upd_ne ea] at z
              rcases g2.2 a o z with z' | z'
              · exact g1.2 a o z'
              · exact .inr (s1.free z')
          · intro a o z
            by_cases ea : a = D
            · subst ea; rw [upd_same] at z; cases z; exact hDl
            · rw [upd_ne ea] at z; exact f2 a o z
    · cases h1
theorem pd_lc (Z : Fam C P w K mg base N sc k top) {elt tg iter : Expr} {ifs : List Expr} {scope : Scope} (own : List (Str × Nat)) {pos : Pos} {src : A1} {g : TgD} {t : T1} {e : E1} {is : List Nat} (hat : TgAt g is) (hi : PId C K tg iter src)
    (hg : PGd (Blk C scope) K tg g) (ht : PTsd (Blk C scope) K ifs t) (he : PEd (Blk C scope) K elt e) (ok : blkC N sc scope own = true) (hin : tgIn is (own.map (·.2)) = true)
    (hs : ∀ env x, foldedSetIterable iter env x = pure x := by intro _ _; rfl) : PEd C K (.ListComp elt [⟨tg, iter, ifs, 0⟩] scope pos) (rLc src g t e (own.map (·.2))) := by
  obtain ⟨wi, hi, si⟩ := hi.ex
  obtain ⟨gx, hg, sg⟩ := hg.ex
  obtain ⟨tt, ht, st⟩ := ht.ex
  obtain ⟨te, he, se⟩ := he.ex
  exact ⟨tLc wi gx tt te (own.map (·.2)), fun X c => pe_lc (Z.calm X c) (Z.ndX c) (hi X c) (by rw [Z.N_ X c, Z.sc_ X c]; exact blkOk_by ok) (fun s H A cl fp => hg _ ⟨X, s, H, cl, A, fp, c, rfl⟩)
    (fun s H A cl fp => ht _ ⟨X, s, H, cl, A, fp, c, rfl⟩) (fun s H A cl fp => he _ ⟨X, s, H, cl, A, fp, c, rfl⟩) (hs X.env), fun F H σ ρ d R h => lc_ev hat hin si sg st se R h⟩
end
end Pd

set_option maxHeartbeats 2000000
/-! Pd4: statements, defs, calls. -/
namespace Pd
open PySem PySem.Spec PyProof.Rows L2

inductive Fl where
  | nx (ρ : Sl) | rt (d : PyData) | bk (ρ : Sl) | ct (ρ : Sl)
abbrev B1 := Sl → Option Fl

/-- within a body: B the heap at its entry, F0 what stayed then -/
structure RelS (K : PySem.W.Frag) (F0 B F H : Hp) (σ : L2.St) (ρ : Sl) : Prop where
  r : Rel K F H σ ρ
  sb : Same B H
  gr : Gr F0 F B
  own : ∀ (i : Nat) (ds : List PyData) (a : Addr), ρ[i]? = some (some (.ow ds)) → σ[i]? = some (some (.ref a)) → B a = none
section
variable {K : PySem.W.Frag} {F0 B F F' H H' : Hp} {σ : L2.St} {ρ : Sl}
theorem RelS.grow (R : RelS K F0 B F H σ ρ) (s : Same H H') (g : Gr F F' H) (e : Same F' H') : RelS K F0 B F' H' σ ρ :=
  ⟨R.r.grow s g e, R.sb.trans s, R.gr.trans R.sb g, R.own⟩
theorem set_none_of {α : Type} {l : List (Option α)} {i j : Nat} {x y : α} (h : (l.set i (some x))[j]? = some (some y)) : (i = j ∧ y = x) ∨ (i ≠ j ∧ l[j]? = some (some y)) := by
  by_cases q : i = j
  · subst q
    by_cases hl : i < l.length
    · rw [List.getElem?_set_self hl] at h
      cases h
      exact .inl ⟨rfl, rfl⟩
    · rw [List.getElem?_eq_none (by simpa using hl)] at h
      cases h
  · rw [List.getElem?_set_ne q] at h
    exact .inr ⟨q, h⟩
theorem RelS.set (R : RelS K F0 B F H σ ρ) {i : Nat} {v : V} {d : PyData} (h : Rp K F v d) : RelS K F0 B F H (σ.set i (some v)) (ρ.set i (some (.vl d))) :=
  ⟨R.r.set h, R.sb, R.gr, fun j ds a e1 e2 => by
    rcases set_none_of e1 with ⟨_, z⟩ | ⟨ne, z⟩
    · cases z
    · rw [List.getElem?_set_ne ne] at e2
      exact R.own j ds a z e2⟩
theorem RelS.sets {m : List (Nat × V)} {l : List (Nat × PyData)} (b : BindV K F m l) : ∀ {σ : L2.St} {ρ : Sl}, RelS K F0 B F H σ ρ → RelS K F0 B F H (setV σ m) (setD ρ l) := by
  induction b with
  | nil => intro σ ρ R; exact R
  | cons r b ih => intro σ ρ R; exact ih (R.set r)
/-- a slot gets a new list of the body's own -/
theorem RelS.setOw (R : RelS K F0 B F H σ ρ) {i : Nat} {p : Addr} {vs : List V} {ds : List PyData} (hp : H p = none) (h : RpAll K F vs ds) : RelS K F0 B F (upd H p (.lst vs)) (σ.set i (some (.ref p))) (ρ.set i (some (.ow ds))) := by
  have hF : F p = none := R.r.ex.free hp
  have nold : ∀ (j : Nat) (es : List PyData), ρ[j]? = some (some (.ow es)) → σ[j]? ≠ some (some (.ref p)) := fun j es e1 e2 => by
    obtain ⟨v, hv, a, us, e, h1, h2, h3⟩ := R.r.cell j _ e1
    rw [hv] at e2
    cases e2
    cases e
    rw [hp] at h1
    cases h1
  refine ⟨⟨by simp [R.r.len], R.r.ex.trans (same_upd hp), fun j c e => ?_, fun j k ds' es a ne e1 e2 e3 e4 => ?_⟩, R.sb.trans (same_upd hp), R.gr, fun j ds' a e1 e2 => ?_⟩
  · rcases set_none_of e with ⟨q, z⟩ | ⟨ne, z⟩
    · subst q
      subst z
      have hl : i < σ.length := by
        rw [R.r.len]
        have := (List.getElem?_eq_some_iff.mp e).1
        simpa using this
      exact ⟨.ref p, List.getElem?_set_self hl, p, vs, rfl, upd_same, hF, h⟩
    · obtain ⟨v, hv, hc⟩ := R.r.cell j c z
      refine ⟨v, by rw [List.getElem?_set_ne ne]; exact hv, ?_⟩
      exact hc.grow (same_upd hp) (Gr.refl F H)
  · rcases set_none_of e1 with ⟨q, z⟩ | ⟨ne1, z1⟩
    · rcases set_none_of e2 with ⟨q2, z2⟩ | ⟨ne2, z2⟩
      · exact ne (q.symm.trans q2)
      · rcases set_none_of e3 with ⟨_, y⟩ | ⟨ney, _⟩
        · cases y
          rw [List.getElem?_set_ne ne2] at e4
          exact nold k es z2 e4
        · exact ney q
    · rcases set_none_of e2 with ⟨q2, z2⟩ | ⟨ne2, z2⟩
      · rcases set_none_of e4 with ⟨_, y⟩ | ⟨ney, _⟩
        · cases y
          rw [List.getElem?_set_ne ne1] at e3
          exact nold j ds' z1 e3
        · exact ney q2
      · rw [List.getElem?_set_ne ne1] at e3
        rw [List.getElem?_set_ne ne2] at e4
        exact R.r.inj j k ds' es a ne z1 z2 e3 e4
  · rcases set_none_of e1 with ⟨q, z⟩ | ⟨ne, z⟩
    · rcases set_none_of e2 with ⟨_, y⟩ | ⟨ney, _⟩
      · cases y
        exact R.sb.free hp
      · exact absurd q ney
    · rw [List.getElem?_set_ne ne] at e2
      exact R.own j ds' a z e2
/-- the own list at slot i is changed -/
theorem RelS.mutOw (R : RelS K F0 B F H σ ρ) {i : Nat} {a : Addr} {ds es : List PyData} {us : List V} (e1 : ρ[i]? = some (some (.ow ds))) (e2 : σ[i]? = some (some (.ref a))) (h : RpAll K F us es) : RelS K F0 B F (upd H a (.lst us)) σ (ρ.set i (some (.ow es))) := by
  obtain ⟨v, hv, a', vs, e, h1, h2, h3⟩ := R.r.cell i _ e1
  rw [hv] at e2
  cases e2
  cases e
  have sF : Same F (upd H a (.lst us)) := fun b o z => by
    have : b ≠ a := fun q => by subst q; rw [h2] at z; cases z
    rw [upd_ne this]
    exact R.r.ex b o z
  refine ⟨⟨by simp [R.r.len], sF, fun j c e => ?_, fun j k ds' es' b ne q1 q2 q3 q4 => ?_⟩, fun b o z => ?_, R.gr, fun j ds' b q1 q2 => ?_⟩
  · rcases set_none_of e with ⟨q, z⟩ | ⟨ne, z⟩
    · subst q
      subst z
      exact ⟨.ref a, hv, a, us, rfl, upd_same, h2, h⟩
    · obtain ⟨v', hv', hc⟩ := R.r.cell j c z
      refine ⟨v', hv', ?_⟩
      cases c with
      | vl d => exact hc
      | ow ds' =>
        obtain ⟨b, ws, e', g1, g2, g3⟩ := hc
        subst e'
        have hb : b ≠ a := fun q => by
          subst q
          exact R.r.inj i j ds ds' b ne e1 z hv hv'
        exact ⟨b, ws, rfl, by rw [upd_ne hb]; exact g1, g2, g3⟩
      | dk kvs => exact hc
      | fz kvs => exact hc
      | nk kvs => exact hc
  · have p1 : ∃ xs, ρ[j]? = some (some (.ow xs)) := by
      rcases set_none_of q1 with ⟨q, _⟩ | ⟨_, z⟩
      · exact ⟨ds, q ▸ e1⟩
      · exact ⟨_, z⟩
    have p2 : ∃ xs, ρ[k]? = some (some (.ow xs)) := by
      rcases set_none_of q2 with ⟨q, _⟩ | ⟨_, z⟩
      · exact ⟨ds, q ▸ e1⟩
      · exact ⟨_, z⟩
    obtain ⟨xs, p1⟩ := p1
    obtain ⟨ys, p2⟩ := p2
    exact R.r.inj j k xs ys b ne p1 p2 q3 q4
  · have : b ≠ a := fun q => by
      subst q
      rw [R.own i ds b e1 hv] at z
      cases z
    rw [upd_ne this]
    exact R.sb b o z
  · have p1 : ∃ xs, ρ[j]? = some (some (.ow xs)) := by
      rcases set_none_of q1 with ⟨q, _⟩ | ⟨_, z⟩
      · exact ⟨ds, q ▸ e1⟩
      · exact ⟨_, z⟩
    obtain ⟨xs, p1⟩ := p1
    exact R.own j xs b p1 q2
end
/-- what is behind a flow -/
def GoesTo (K : PySem.W.Frag) (F0 B : Hp) (D : Ends) : Fl → Prop
  | .nx ρ => ∀ σ F H, RelS K F0 B F H σ ρ → D.nx σ H
  | .rt d => ∀ v F H, Same B H → Gr F0 F B → Same F H → Rp K F v d → D.rt v H
  | .bk ρ => ∀ σ F H, RelS K F0 B F H σ ρ → D.bk σ H
  | .ct ρ => ∀ σ F H, RelS K F0 B F H σ ρ → D.ct σ H
def SndS (K : PySem.W.Frag) (t : TS) (r : B1) : Prop := ∀ F0 B F H σ ρ fl D, RelS K F0 B F H σ ρ → r ρ = some fl → GoesTo K F0 B D fl → t D σ H
structure PSd (C : Cx → Prop) (K : PySem.W.Frag) (st : Stmt) (r : B1) : Prop where
  ex : ∃ t, (∀ X, C X → PS X st t) ∧ SndS K t r
structure PSsd (C : Cx → Prop) (K : PySem.W.Frag) (sts : List Stmt) (r : B1) : Prop where
  ex : ∃ t, (∀ X, C X → PSs X sts t) ∧ SndS K t r

def sNext : B1 := fun ρ => some (.nx ρ)
def sSeq (a b : B1) : B1 := fun ρ => match a ρ with
  | some (.nx ρ') => b ρ'
  | f => f
def sRet (r : E1) : B1 := fun ρ => (r ρ).map .rt
def sRetN : B1 := fun _ => some (.rt .none)
def sAsg (g : TgD) (r : E1) : B1 := fun ρ => (r ρ).bind fun d => (g d).map fun l => .nx (setD ρ l)
def sDrop (r : E1) : B1 := fun ρ => (r ρ).map fun _ => .nx ρ
def sIf (t : T1) (a b : B1) : B1 := fun ρ => match t ρ with
  | some true => a ρ
  | some false => b ρ
  | none => none
def sBrk : B1 := fun ρ => some (.bk ρ)
def sCnt : B1 := fun ρ => some (.ct ρ)
def sNever : B1 := fun _ => none
/-- for: each item of the list -/
def forD (g : TgD) (b : B1) : List PyData → Sl → Option Fl
  | [], ρ => some (.nx ρ)
  | d :: r, ρ => match g d with
    | none => none
    | some l => match b (setD ρ l) with
      | some (.nx ρ') => forD g b r ρ'
      | some (.ct ρ') => forD g b r ρ'
      | some (.bk ρ') => some (.nx ρ')
      | some (.rt d) => some (.rt d)
      | none => none
def sFor (src : A1) (g : TgD) (b : B1) : B1 := fun ρ => (src ρ).bind fun ds => forD g b ds ρ
/-- while, with so many turns at most -/
def whD (t : T1) (b : B1) : Nat → Sl → Option Fl
  | 0, _ => none
  | n + 1, ρ => match t ρ with
    | none => none
    | some false => some (.nx ρ)
    | some true => match b ρ with
      | some (.nx ρ') => whD t b n ρ'
      | some (.ct ρ') => whD t b n ρ'
      | some (.bk ρ') => some (.nx ρ')
      | some (.rt d) => some (.rt d)
      | none => none
section
variable {C : Cx → Prop} {P : Program} {w : World} {K : PySem.W.Frag} {mg : Str → Option Value} {base : Heap} {N : List Str} {sc : Scope} {k : Nat} {top : Bool}
theorem pss1_nil : PSsd C K [] sNext := ⟨tNext, fun _ _ => pss_nil, fun F0 B F H σ ρ fl D R e q => by cases e; exact q σ F H R⟩
theorem snd_seq {t u : TS} {a b : B1} (ha : SndS K t a) (hb : SndS K u b) : SndS K (tSeq t u) (sSeq a b) := fun F0 B F H σ ρ fl D R e q => by
  unfold sSeq at e
  cases h : a ρ with
  | none => rw [h] at e; cases e
  | some f =>
    rw [h] at e
    refine ha F0 B F H σ ρ f { D with nx := u D } R h ?_
    cases f with
    | nx ρ' => exact fun σ' F' H' R' => hb F0 B F' H' σ' ρ' fl D R' e q
    | rt d => cases e; exact q
    | bk ρ' => cases e; exact q
    | ct ρ' => cases e; exact q
theorem pss1_cons {st : Stmt} {rest : List Stmt} {a b : B1} (ha : PSd C K st a) (hb : PSsd C K rest b) : PSsd C K (st :: rest) (sSeq a b) := by
  obtain ⟨t, ha, sa⟩ := ha.ex
  obtain ⟨u, hb, sb⟩ := hb.ex
  exact ⟨tSeq t u, fun X c => pss_cons (ha X c) (hb X c), snd_seq sa sb⟩
theorem pss1_one {st : Stmt} {a : B1} (ha : PSd C K st a) : PSsd C K [st] a := by
  obtain ⟨t, ha, sa⟩ := ha.ex
  exact ⟨t, fun X c => pss_one (ha X c), sa⟩
theorem pss1_never {sts : List Stmt} : PSsd C K sts sNever := ⟨tNever, fun _ _ => pss_never, fun F0 B F H σ ρ fl D R e q => nomatch e⟩
theorem ps1_never {st : Stmt} : PSd C K st sNever := ⟨tNever, fun _ _ => ps_never, fun F0 B F H σ ρ fl D R e q => nomatch e⟩
theorem ps1_pass {pos : Pos} : PSd C K (.Pass pos) sNext := ⟨tNext, fun _ _ => ps_pass, fun F0 B F H σ ρ fl D R e q => by cases e; exact q σ F H R⟩
theorem ps1_ret {e : Expr} {r : E1} {pos : Pos} (h : PEd C K e r) : PSd C K (.Return (some e) pos) (sRet r) := by
  obtain ⟨t, h, s⟩ := h.ex
  refine ⟨tRet t, fun X c => ps_ret (h X c), fun F0 B F H σ ρ fl D R e q => ?_⟩
  unfold sRet at e
  cases e1 : r ρ with
  | none => rw [e1] at e; cases e
  | some d =>
    rw [e1] at e
    cases e
    exact s F H σ ρ d R.r e1 _ fun v F' H' s1 g1 f1 r1 => q v F' H' (R.sb.trans s1) (R.gr.trans R.sb g1) f1 r1
theorem ps1_retN {pos : Pos} : PSd C K (.Return none pos) sRetN := ⟨tRetN, fun _ _ => ps_retN, fun F0 B F H σ ρ fl D R e q => by
  cases e
  exact q .non F H R.sb R.gr R.r.ex .non⟩
theorem ps1_expr {e : Expr} {r : E1} {pos : Pos} (h : PEd C K e r) (hs : ∀ env, swapsWith e none pos.line env = pure false := by intro _; rfl) : PSd C K (.Expr e pos) (sDrop r) := by
  obtain ⟨t, h, s⟩ := h.ex
  refine ⟨tDrop t, fun X c => ps_expr (h X c) (hs X.env), fun F0 B F H σ ρ fl D R e q => ?_⟩
  unfold sDrop at e
  cases e1 : r ρ with
  | none => rw [e1] at e; cases e
  | some d =>
    rw [e1] at e
    cases e
    exact s F H σ ρ d R.r e1 _ fun v F' H' s1 g1 f1 r1 => q σ F' H' (R.grow s1 g1 f1)
theorem ps1_asg {tg e : Expr} {g : TgD} {r : E1} {pos : Pos} (hg : PGd C K tg g) (h : PEd C K e r) (hs : ∀ env, swapsWithSole [tg] e pos.line env = pure false := by intro _; rfl) (hw : ∀ env, swappedStores [tg] e env = pure none := by intro _; rfl)
    (h1 : ∀ env, (assignEach [tg] env).map (·.2) = [assign tg env] := by intro _; rfl) : PSd C K (.Assign [tg] e pos) (sAsg g r) := by
  obtain ⟨t, h, s⟩ := h.ex
  obtain ⟨gx, hg, sg⟩ := hg.ex
  refine ⟨tAsg t gx, fun X c => ps_asg (h X c) (hg X c) (hs X.env) (hw X.env) (h1 X.env), fun F0 B F H σ ρ fl D R e q => ?_⟩
  unfold sAsg at e
  cases e1 : r ρ with
  | none => rw [e1] at e; cases e
  | some d =>
    rw [e1] at e
    have e' : (g d).map (fun l => Fl.nx (setD ρ l)) = some fl := e
    cases e2 : g d with
    | none => rw [e2] at e'; cases e'
    | some l =>
      rw [e2] at e'
      cases e'
      exact s F H σ ρ d R.r e1 _ fun v F' H' s1 g1 f1 r1 => sg F' H' σ v d l f1 r1 e2 _ fun m b => q _ F' H' (RelS.sets b (R.grow s1 g1 f1))
/-- name = value -/
theorem ps1_set (Z : Fam C P w K mg base N sc k top) (i : Nat) {x : Str} {e : Expr} {r : E1} {pos pos' : Pos} (h : PEd C K e r) (ho : okS N sc top i x = true) (hs : ∀ env, swapsWith e (some (.Name x pos')) pos.line env = pure false := by intro _; rfl) :
    PSd C K (.Assign [.Name x pos'] e pos) (sAsg (gN i) r) := by
  obtain ⟨t, h, s⟩ := h.ex
  refine ⟨tAsg t (gName i), fun X c => let z := okS_ok Z ho c; ps_set (Z.ndX c) z.1 z.2.1 (h X c) (hs X.env) z.2.2, fun F0 B F H σ ρ fl D R e q => ?_⟩
  unfold sAsg at e
  cases e1 : r ρ with
  | none => rw [e1] at e; cases e
  | some d =>
    rw [e1] at e
    cases e
    exact s F H σ ρ d R.r e1 _ fun v F' H' s1 g1 f1 r1 => q _ F' H' ((R.grow s1 g1 f1).set r1)
/-- name = [..] by a comprehension on one line -/
theorem ps1_setLc (Z : Fam C P w K mg base N sc k top) (j : Nat) {y : Str} {py : Pos} {elt tg iter : Expr} {ifs : List Expr} {scope : Scope} (own : List (Str × Nat)) {pos spos : Pos} {src : A1} {g : TgD} {t : T1} {e : E1} {is : List Nat} (hat : TgAt g is) (hi : PId C K tg iter src)
    (hg : PGd (Blk C scope) K tg g) (ht : PTsd (Blk C scope) K ifs t) (he : PEd (Blk C scope) K elt e) (ok : blkC N sc scope own = true) (hin : tgIn is (own.map (·.2)) = true) (hy : N[j]? = some y) (hyl : sc.names.lookup y = some .local) (hkind : sc.kind = .function) (hl : (py.line == pos.line) = true)
    (ha : (scope.names.any fun (n, k) => n == y && (k == .local || k == .cell)) = false)
    (hs : ∀ env x, foldedSetIterable iter env x = pure x := by intro _ _; rfl) : PSd C K (.Assign [.Name y py] (.ListComp elt [⟨tg, iter, ifs, 0⟩] scope pos) spos) (sAsg (gN j) (rLc src g t e (own.map (·.2)))) := by
  obtain ⟨wi, hi, si⟩ := hi.ex
  obtain ⟨gx, hg, sg⟩ := hg.ex
  obtain ⟨tt, ht, st⟩ := ht.ex
  obtain ⟨te, he, se⟩ := he.ex
  refine ⟨tAsg (tLc wi gx tt te (own.map (·.2))) (gName j), fun X c => ps_setLc (Z.calm X c) (Z.ndX c) (by rw [Z.N_ X c]; exact hy) (by rw [Z.sc_ X c]; exact hyl) (sw_true (by rw [Z.sc_ X c]; exact hkind) (by rw [Z.sc_ X c]; exact hyl) hl ha) (hi X c) (by rw [Z.N_ X c, Z.sc_ X c]; exact blkOk_by ok)
    (fun s H A cl fp => hg _ ⟨X, s, H, cl, A, fp, c, rfl⟩) (fun s H A cl fp => ht _ ⟨X, s, H, cl, A, fp, c, rfl⟩) (fun s H A cl fp => he _ ⟨X, s, H, cl, A, fp, c, rfl⟩) (hs X.env), fun F0 B F H σ ρ fl D R e q => ?_⟩
  unfold sAsg at e
  cases e1 : rLc src g t _ (own.map (·.2)) ρ with
  | none => rw [e1] at e; cases e
  | some d =>
    rw [e1] at e
    cases e
    exact lc_ev hat hin si sg st se R.r e1 _ fun v F' H' s1 g1 f1 r1 => q _ F' H' ((R.grow s1 g1 f1).set r1)
theorem ps1_if {c : Expr} {a b : List Stmt} {rc : T1} {ra rb : B1} {pos : Pos} (hc : PTd C K c rc) (ha : PSsd C K a ra) (hb : PSsd C K b rb) : PSd C K (.If c a b pos) (sIf rc ra rb) := by
  obtain ⟨tc, hc, sc'⟩ := hc.ex
  obtain ⟨ta, ha, sa⟩ := ha.ex
  obtain ⟨tb, hb, sb⟩ := hb.ex
  refine ⟨tIfS tc ta tb, fun X c => ps_if (hc X c) (ha X c) (hb X c), fun F0 B F H σ ρ fl D R e q => ?_⟩
  unfold sIf at e
  split at e
  · rename_i e1
    refine sc' F H σ ρ true R.r e1 _ fun H1 s1 => ?_
    rw [if_pos rfl]
    exact sa F0 B F H1 σ ρ fl D (R.grow s1 (Gr.refl F H) (R.r.ex.trans s1)) e q
  · rename_i e1
    refine sc' F H σ ρ false R.r e1 _ fun H1 s1 => ?_
    rw [if_neg Bool.false_ne_true]
    exact sb F0 B F H1 σ ρ fl D (R.grow s1 (Gr.refl F H) (R.r.ex.trans s1)) e q
  · cases e
theorem for_ev {wi : TI} {gx : TG} {tb : TS} {src : A1} {g : TgD} {b : B1}
    (si : ∀ F H σ ρ ds, Rel K F H σ ρ → src ρ = some ds → ∀ R : It → Hp → Prop, (∀ J F1 H1, Same H H1 → Gr F F1 H → Same F1 H1 → Walk K J F1 ds → R J H1) → wi σ H R)
    (sg : ∀ F H σ v d l, Same F H → Rp K F v d → g d = some l → ∀ Q : L2.St → Hp → Prop, (∀ m, BindV K F m l → Q (setV σ m) H) → gx v σ H Q) (sb : SndS K tb b) : SndS K (tFor wi gx tb) (sFor src g b) := fun F0 B F H σ ρ fl D R e q => by
  unfold sFor at e
  cases e1 : src ρ with
  | none => rw [e1] at e; cases e
  | some ds =>
    rw [e1] at e
    have e' : forD g b ds ρ = some fl := e
    refine si F H σ ρ ds R.r e1 _ fun J F1 H1 s1 g1 f1 Wk => ?_
    refine ⟨fun i m σ' H' => m = ds.length - i ∧ i ≤ ds.length ∧ ∃ F' ρ', Same F1 F' ∧ RelS K F0 B F' H' σ' ρ' ∧ forD g b (ds.drop i) ρ' = some fl, ⟨ds.length, by simp, Nat.zero_le _, F1, ρ, Same.refl _, R.grow s1 g1 f1, by simpa using e'⟩, ?_⟩
    rintro i m σ2 H2 ⟨rfl, hi, F2, ρ2, sF, R2, hd⟩
    by_cases hlt : i < ds.length
    · obtain ⟨di, hdi⟩ : ∃ di, ds[i]? = some di := ⟨ds[i], by simp [hlt]⟩
      have hdrop : ds.drop i = di :: ds.drop (i + 1) := by
        have := List.drop_eq_getElem_cons hlt
        rw [List.getElem?_eq_getElem hlt] at hdi
        cases hdi
        exact this
      rw [hdrop] at hd
      unfold forD at hd
      refine .inr ⟨Wk.go i H2 di (sF.trans R2.r.ex) hdi, fun σ' H' => ∃ F' ρ', Same F1 F' ∧ RelS K F0 B F' H' σ' ρ' ∧ forD g b (ds.drop (i + 1)) ρ' = some fl, fun σ' H' n => ⟨ds.length - (i + 1), by omega, rfl, hlt, n⟩, fun x H' hy => ?_⟩
      obtain ⟨s3, F3, g3, f3, rx⟩ := Wk.yld i F2 H2 di x H' sF R2.r.ex hdi hy
      cases eg : g di with
      | none => rw [eg] at hd; cases hd
      | some l =>
        rw [eg] at hd
        refine sg F3 H' _ x di l f3 rx eg _ fun mm bm => ?_
        have R3 : RelS K F0 B F3 H' (setV σ2 mm) (setD ρ2 l) := RelS.sets bm (R2.grow s3 g3 f3)
        have hd' : (match b (setD ρ2 l) with
          | some (.nx ρ') => forD g b (ds.drop (i + 1)) ρ'
          | some (.ct ρ') => forD g b (ds.drop (i + 1)) ρ'
          | some (.bk ρ') => some (.nx ρ')
          | some (.rt d) => some (.rt d)
          | none => none) = some fl := hd
        have RB : RelS K F3 B F3 H' (setV σ2 mm) (setD ρ2 l) := ⟨R3.r, R3.sb, Gr.refl _ _, R3.own⟩
        have back : ∀ {σ' F' H'' ρ'}, RelS K F3 B F' H'' σ' ρ' → RelS K F0 B F' H'' σ' ρ' := fun {σ' F' H'' ρ'} R' => ⟨R'.r, R'.sb, R3.gr.trans (Same.refl B) R'.gr, R'.own⟩
        cases eb : b (setD ρ2 l) with
        | none => rw [eb] at hd'; cases hd'
        | some f =>
          rw [eb] at hd'
          refine sb F3 B F3 H' _ _ f _ RB eb ?_
          cases f with
          | nx ρ' =>
            have hd2 : forD g b (ds.drop (i + 1)) ρ' = some fl := hd'
            exact fun σ' F' H'' R' => ⟨F', ρ', (sF.trans g3.1).trans R'.gr.1, back R', hd2⟩
          | ct ρ' =>
            have hd2 : forD g b (ds.drop (i + 1)) ρ' = some fl := hd'
            exact fun σ' F' H'' R' => ⟨F', ρ', (sF.trans g3.1).trans R'.gr.1, back R', hd2⟩
          | bk ρ' =>
            have hd2 : some (Fl.nx ρ') = some fl := hd'
            cases hd2
            exact fun σ' F' H'' R' => q σ' F' H'' (back R')
          | rt d =>
            have hd2 : some (Fl.rt d) = some fl := hd'
            cases hd2
            exact fun v F' H'' s' g' f' r' => q v F' H'' s' (R3.gr.trans (Same.refl B) g') f' r'
    · have ei : i = ds.length := by omega
      subst ei
      rw [List.drop_length] at hd
      unfold forD at hd
      cases hd
      exact .inl ⟨Wk.stop _ H2 (sF.trans R2.r.ex) (Nat.le_refl _), q σ2 F2 H2 R2⟩
theorem ps1_for (Z : Fam C P w K mg base N sc k top) {tg iter : Expr} {body : List Stmt} {src : A1} {g : TgD} {b : B1} {pos : Pos} (hi : PId C K tg iter src) (hg : PGd C K tg g) (hb : PSsd C K body b)
    (hs : ∀ env x, foldedSetIterable iter env x = pure x := by intro _ _; rfl) : PSd C K (.For tg iter body [] pos) (sFor src g b) := by
  obtain ⟨wi, hi, si⟩ := hi.ex
  obtain ⟨gx, hg, sg⟩ := hg.ex
  obtain ⟨tb, hb, sb⟩ := hb.ex
  exact ⟨tFor wi gx tb, fun X c => ps_for (by rw [Z.xe X c]; exact PassesOwn.never) (Z.calm X c) (hi X c) (hg X c) (hb X c) (hs X.env), for_ev si sg sb⟩
/-- while, so many turns at most -/
theorem wh_ev {tt : TT} {tb : TS} {t : T1} {b : B1} (st : ∀ F H σ ρ b, Rel K F H σ ρ → t ρ = some b → EvT tt σ H b) (sb : SndS K tb b) (n : Nat) : SndS K (tWhile tt tb) (whD t b n) := fun F0 B F H σ ρ fl D R e q => by
  refine ⟨fun m σ' H' => ∃ F' ρ', RelS K F0 B F' H' σ' ρ' ∧ whD t b m ρ' = some fl, ⟨n, F, ρ, R, e⟩, ?_⟩
  rintro m σ1 H1 ⟨F1, ρ1, R1, e1⟩
  cases m with
  | zero => cases e1
  | succ m =>
    unfold whD at e1
    cases et : t ρ1 with
    | none => rw [et] at e1; cases e1
    | some c =>
      rw [et] at e1
      refine st F1 H1 σ1 ρ1 c R1.r et _ fun H2 s2 => ?_
      have R2 : RelS K F0 B F1 H2 σ1 ρ1 := R1.grow s2 (Gr.refl F1 H1) (R1.r.ex.trans s2)
      cases c with
      | false =>
        rw [if_neg Bool.false_ne_true]
        have e2 : some (Fl.nx ρ1) = some fl := e1
        cases e2
        exact q σ1 F1 H2 R2
      | true =>
        rw [if_pos rfl]
        have e2 : (match b ρ1 with
          | some (.nx ρ') => whD t b m ρ'
          | some (.ct ρ') => whD t b m ρ'
          | some (.bk ρ') => some (.nx ρ')
          | some (.rt d) => some (.rt d)
          | none => none) = some fl := e1
        refine ⟨fun σ' H' => ∃ F' ρ', RelS K F0 B F' H' σ' ρ' ∧ whD t b m ρ' = some fl, fun σ' H' z => ⟨m, Nat.lt_succ_self m, z⟩, ?_⟩
        cases eb : b ρ1 with
        | none => rw [eb] at e2; cases e2
        | some f =>
          rw [eb] at e2
          refine sb F0 B F1 H2 σ1 ρ1 f _ R2 eb ?_
          cases f with
          | nx ρ' => exact fun σ' F' H' R' => ⟨F', ρ', R', e2⟩
          | ct ρ' => exact fun σ' F' H' R' => ⟨F', ρ', R', e2⟩
          | bk ρ' =>
            have e3 : some (Fl.nx ρ') = some fl := e2
            cases e3
            exact fun σ' F' H' R' => q σ' F' H' R'
          | rt d =>
            have e3 : some (Fl.rt d) = some fl := e2
            cases e3
            exact q
theorem ps1_while (Z : Fam C P w K mg base N sc k top) (n : Nat) {c : Expr} {body : List Stmt} {t : T1} {b : B1} {pos : Pos} (hc : PTd C K c t) (hb : PSsd C K body b) : PSd C K (.While c body [] pos) (whD t b n) := by
  obtain ⟨tt, hc, st⟩ := hc.ex
  obtain ⟨tb, hb, sb⟩ := hb.ex
  exact ⟨tWhile tt tb, fun X c => ps_while (by rw [Z.xe X c]; exact PassesOwn.never) (hc X c) (hb X c), wh_ev st sb n⟩
theorem ps1_break {pos : Pos} : PSd C K (.Break pos) sBrk := ⟨tBreak, fun _ _ => ps_break, fun F0 B F H σ ρ fl D R e q => by cases e; exact q σ F H R⟩
theorem ps1_cont {pos : Pos} : PSd C K (.Continue pos) sCnt := ⟨tCont, fun _ _ => ps_continue, fun F0 B F H σ ρ fl D R e q => by cases e; exact q σ F H R⟩
/-- a, b = e1, e2 -/
def sPar (i j : Nat) (a : A1) : B1 := fun ρ => match a ρ with
  | some [x, y] => some (.nx ((ρ.set i (some (.vl x))).set j (some (.vl y))))
  | _ => none
theorem ps1_par (Z : Fam C P w K mg base N sc k top) (i j : Nat) {x y : Str} {a b : Expr} {t : A1} {px py pt pos : Pos} {kt k2 pt2} (hi : N[i]? = some x) (hj : N[j]? = some y) (hij : i ≠ j) (hx : sc.names.lookup x = some .local) (hy : sc.names.lookup y = some .local) (ha : PAd C K [a, b] t)
    (hw : ∀ env, env.scope = sc → swappedStores [.Tuple [.Name x px, .Name y py] kt pt] (.Tuple [a, b] k2 pt2) env = pure (some [x, y]))
    (hs : ∀ env, swapsWithSole [.Tuple [.Name x px, .Name y py] kt pt] (.Tuple [a, b] k2 pt2) pos.line env = pure false := by intro _; rfl) :
    PSd C K (.Assign [.Tuple [.Name x px, .Name y py] kt pt] (.Tuple [a, b] k2 pt2) pos) (sPar i j t) := by
  obtain ⟨ta, ha, sa⟩ := ha.ex
  refine ⟨tPar i j ta, fun X c => ps_par (Z.calm X c) (Z.ndX c) (by rw [Z.N_ X c]; exact hi) (by rw [Z.N_ X c]; exact hj) hij (by rw [Z.sc_ X c]; exact hx) (by rw [Z.sc_ X c]; exact hy) (ha X c) (hw X.env (Z.sc_ X c)) (hs X.env), fun F0 B F H σ ρ fl D R e q => ?_⟩
  unfold sPar at e
  split at e
  · rename_i d1 d2 e1
    cases e
    refine sa F H σ ρ _ R.r e1 _ fun vs F1 H1 s1 g1 f1 r1 => ?_
    cases r1 with
    | cons r1 r2 => cases r2 with
      | cons r2 r3 =>
        cases r3
        exact ⟨_, _, rfl, q _ F1 H1 (((R.grow s1 g1 f1).set r1).set r2)⟩
  · cases e

/-! ### defs -/
/-- what a def of data promises -/
def spD (K : PySem.W.Frag) (n : Nat) (m : List PyData → Option PyData) : Sp := fun vs H Q _ => ∃ F ds d, ds.length = n ∧ Same F H ∧ RpAll K F vs ds ∧ m ds = some d ∧ ∀ v F' H', Same H H' → Gr F F' H → Same F' H' → Rp K F' v d → Q v H'
def startD (n : Nat) (ds : List PyData) : Sl := ds.map (fun d => some (.vl d)) ++ List.replicate (n - ds.length) none
/-- a body, run from its arguments -/
def runB (n : Nat) (b : B1) : List PyData → Option PyData := fun ds => match b (startD n ds) with
  | some (.rt d) => some d
  | some (.nx _) => some .none
  | _ => none
theorem rel_start {F H : Hp} {vs : List V} {ds : List PyData} (s : Same F H) (r : RpAll K F vs ds) : Rel K F H (L2.start N vs) (startD N.length ds) := by
  have hl := r.length
  refine ⟨by unfold L2.start startD; simp [hl], s, fun i c e => ?_, fun i j ds' es a ne e1 e2 => ?_⟩
  · unfold startD at e
    by_cases hi : i < ds.length
    · rw [List.getElem?_append_left (by simpa using hi), List.getElem?_map] at e
      cases e2 : ds[i]? with
      | none => rw [e2] at e; cases e
      | some d =>
        rw [e2] at e
        cases e
        obtain ⟨v, hv, rv⟩ := r.get e2
        refine ⟨v, ?_, rv⟩
        unfold L2.start
        rw [List.getElem?_append_left (by simp; omega), List.getElem?_map, hv]
        rfl
    · rw [List.getElem?_append_right (by simpa using hi), List.getElem?_replicate] at e
      split at e <;> cases e
  · unfold startD at e1
    by_cases hi : i < ds.length
    · rw [List.getElem?_append_left (by simpa using hi), List.getElem?_map] at e1
      cases e3 : ds[i]? with
      | none => rw [e3] at e1; cases e1
      | some d => rw [e3] at e1; cases e1
    · rw [List.getElem?_append_right (by simpa using hi), List.getElem?_replicate] at e1
      split at e1 <;> cases e1
theorem no_own {n : Nat} {ds : List PyData} {i : Nat} {es : List PyData} : (startD n ds)[i]? ≠ some (some (.ow es)) := fun e1 => by
  unfold startD at e1
  by_cases hi : i < ds.length
  · rw [List.getElem?_append_left (by simpa using hi), List.getElem?_map] at e1
    cases e3 : ds[i]? with
    | none => rw [e3] at e1; cases e1
    | some d => rw [e3] at e1; cases e1
  · rw [List.getElem?_append_right (by simpa using hi), List.getElem?_replicate] at e1
    split at e1 <;> cases e1
/-- the contexts of a def's body -/
def Bod (P : Program) (w : World) (K : PySem.W.Frag) (mg : Str → Option Value) (base : Heap) (N : List Str) (qual : Str) (sc : Scope) (f : Addr) (k : Nat) : Cx → Prop := fun X => ∃ cdv A outer s H E, Room k (A.deeper (envOfC qual sc s.heap.objs.size f cdv)) ∧ X = (cxOf CX0 P w K mg base N qual sc f cdv A outer s H E).nox
theorem fam_bod {qual : Str} {f : Addr} (nd : N.Nodup) : Fam (Bod P w K mg base N qual sc f k) P w K mg base N sc k true where
  prog := fun X ⟨_, _, _, _, _, _, _, e⟩ => by subst e; rfl
  wo := fun X ⟨_, _, _, _, _, _, _, e⟩ => by subst e; rfl
  K_ := fun X ⟨_, _, _, _, _, _, _, e⟩ => by subst e; rfl
  mg_ := fun X ⟨_, _, _, _, _, _, _, e⟩ => by subst e; rfl
  base_ := fun X ⟨_, _, _, _, _, _, _, e⟩ => by subst e; rfl
  N_ := fun X ⟨_, _, _, _, _, _, _, e⟩ => by subst e; rfl
  sc_ := fun X ⟨_, _, _, _, _, _, _, e⟩ => by subst e; rfl
  calm := fun X ⟨_, _, _, _, _, _, _, e⟩ => by subst e; rfl
  room := fun X ⟨_, _, _, _, _, _, r, e⟩ => by subst e; exact r
  fn := fun _ X ⟨_, _, _, _, _, _, _, e⟩ => by subst e; exact fun _ => rfl
  xe := fun X ⟨_, _, _, _, _, _, _, e⟩ => by subst e; rfl
  nd := nd
/-- THE RULE for a def of data -/
theorem fn_data {x qual : Str} {params : Arguments} {body : List Stmt} {dvs : List V} {kws : List (Str × V)} {f : Addr} {fd : FuncData} {ps : List Str} {b : B1} (Fu : FunD K x qual params body sc dvs kws f fd) (S : FnScope N ps sc)
    (h : PSsd (Bod P w K mg base N qual sc f k) K body b) : FnOk P w K mg base CX0 (k + 1) f fd ps (spD K ps.length (runB N.length b)) := by
  obtain ⟨t, h, s⟩ := h.ex
  refine Fu.ok S (fun vs H Q E q => ?_) fun cdv A outer s0 H vs Q E hr q => ⟨t, PSs.nox (h _ ⟨cdv, A, outer, s0, H, E, hr, rfl⟩), ?_⟩
  · obtain ⟨F, ds, d, hl, _, r, _⟩ := q
    rw [r.length, hl]
  · obtain ⟨F, ds, d, hl, sF, r, e, q⟩ := q
    unfold runB at e
    cases eb : b (startD N.length ds) with
    | none => rw [eb] at e; cases e
    | some fl =>
      rw [eb] at e
      refine s F H F H _ _ fl _ ⟨rel_start sF r, Same.refl H, Gr.refl F H, fun i ds' a z => absurd z no_own⟩ eb ?_
      cases fl with
      | rt d' => cases e; exact q
      | nx ρ' => cases e; exact fun σ' F' H' R' => q .non F' H' R'.sb R'.gr R'.r.ex .non
      | bk ρ' => cases e
      | ct ρ' => cases e

theorem FunD.look {K : PySem.W.Frag} {x qual : Str} {params : Arguments} {body : List Stmt} {scope : Scope} {dvs : List V} {kws : List (Str × V)} {f : Addr} {fd : FuncData} (F : FunD K x qual params body scope dvs kws f fd) : ∃ o, K.lookup f = some o ∧ o.data = .func fd := by
  obtain ⟨oc, od, dV, kV, doc, pm, an, cdv, ct, osl, h1, h2, _⟩ := F.ex
  exact ⟨_, h2, rfl⟩
/-! ### calls -/
/-- the def that x stands for: j its level, n its parameters, dv the defaults that fill up, m what it does -/
structure Cal (P : Program) (w : World) (K : PySem.W.Frag) (mg : Str → Option Value) (base : Heap) (j : Nat) (x : Str) (n : Nat) (m : List PyData → Option PyData) : Prop where
  ex : ∃ f fd ps, mg x = some (.ref f) ∧ PySem.W.keepIn K (.ref f) = true ∧ ps.length = n ∧ FnOk P w K mg base CX0 j f fd ps (spD K n m) ∧ Binds K fd ps [] ∧ ∃ o, K.lookup f = some o ∧ o.data = .func fd
def rCall (n : Nat) (m : List PyData → Option PyData) (a : A1) : E1 := fun ρ => match a ρ with
  | some ds => if ds.length = n then m ds else none
  | none => none
theorem pd_call {j : Nat} {x : Str} {n : Nat} {m : List PyData → Option PyData} {e : Expr} {es : List Expr} {t : A1} {p pos : Pos} (Z : Fam C P w K mg base N sc k top) (c : Cal P w K mg base j x n m) (hj : j ≤ k) (ha : PAd C K (e :: es) t) (h : okG sc x = true)
    (he : ∀ env, starEach (e :: es) env = (false, eval e env) :: starEach es env := by intro _; rfl) (hpl : ∀ env, (backTo pos (starEach es env)).any (·.1) = false := by intro _; rfl) : PEd C K (.Call (.Name x p) (e :: es) [] pos) (rCall n m t) := by
  unfold okG at h
  simp only [Bool.and_eq_true] at h
  obtain ⟨f, fd, ps, hm, kp, hn, G, b, _⟩ := c.ex
  obtain ⟨ta, ha, sa⟩ := ha.ex
  refine ⟨tCall (spD K n m) [] E0 ta, fun X c => ?_, fun F H σ ρ d R e Q q => ?_⟩
  · have e1 := Z.prog X c
    have e2 := Z.wo X c
    have e3 := Z.K_ X c
    have e4 := Z.mg_ X c
    have e5 := Z.base_ X c
    exact pe_call (F := by rw [e1, e2, e3, e4, e5]; exact G) ((Z.room X c).mono hj) (Z.gl h.1 c) (by rw [e4]; exact hm) (by rw [e3]; exact kp) (by rw [e3]; exact b) .nil pass0 (ha X c) (plainN_d h.2) (he X.env) (hpl X.env)
  · unfold rCall at e
    split at e
    · split at e
      · rename_i ds e1 hl
        refine sa F H σ ρ ds R e1 _ fun vs F1 H1 s1 g1 f1 r1 => ⟨F1, ds, d, hl, f1, by rw [List.append_nil]; exact r1, e, fun v F2 H2 s2 g2 f2 r2 => q v F2 H2 (s1.trans s2) (g1.trans s1 g2) f2 r2⟩
      · cases e
    · cases e
end
end Pd

set_option maxHeartbeats 2000000
/-! Pd5: operators, subscripts, built-ins as data. -/
namespace Pd
open PySem PySem.Spec PyProof.Rows L2

section
variable {K : PySem.W.Frag}
/-- an answer that needs no heap -/
theorem rv_here {F H : Hp} {v : V} {d : PyData} {Q : VK} (s : Same F H) (h : Rp K F v d) (q : ∀ v F' H', Same H H' → Gr F F' H → Same F' H' → Rp K F' v d → Q v H') : Q v H := q v F H (Same.refl H) (Gr.refl F H) s h
theorem rv_tup {F H : Hp} {p : Addr} {vs : List V} {ds : List PyData} {Q : VK} (s : Same F H) (h : RpAll K F vs ds) (q : ∀ v F' H', Same H H' → Gr F F' H → Same F' H' → Rp K F' v (.tuple ds) → Q v H') (hp : H p = none) : Q (.ref p) (upd H p (.tup vs)) :=
  q _ (upd F p (.tup vs)) _ (same_upd hp) (gr_upd s hp) (same_updB s) (.tup (.inl (.inl upd_same)) (RpAll.mono (same_upd (s.free hp)) _ _ h))
theorem rv_lst {F H : Hp} {p : Addr} {vs : List V} {ds : List PyData} {Q : VK} (s : Same F H) (h : RpAll K F vs ds) (q : ∀ v F' H', Same H H' → Gr F F' H → Same F' H' → Rp K F' v (.list ds) → Q v H') (hp : H p = none) : Q (.ref p) (upd H p (.lst vs)) :=
  q _ (upd F p (.lst vs)) _ (same_upd hp) (gr_upd s hp) (same_updB s) (.lst upd_same (RpAll.mono (same_upd (s.free hp)) _ _ h))

/-! ### whole numbers -/
def fI (g : Int → Int → PyData) : PyData → PyData → Option PyData
  | .int i, .int j => some (g i j)
  | _, _ => none
def fIc (c : Int → Int → Bool) (g : Int → Int → PyData) : PyData → PyData → Option PyData
  | .int i, .int j => if c i j then some (g i j) else none
  | _, _ => none
theorem o2_I {g : Int → Int → V} {gd : Int → Int → PyData} (h : ∀ F i j, Rp K F (g i j) (gd i j)) : Op2 K (rI0 g) (fI gd) := fun F H x y dx dy d s rx ry e Q q => by
  unfold fI at e
  split at e
  · cases e
    cases rx; cases ry
    exact ⟨_, _, rfl, rfl, rv_here s (h F _ _) q⟩
  · cases e
theorem o2_Ic {C : Int → Int → Prop} {c : Int → Int → Bool} {g : Int → Int → V} {gd : Int → Int → PyData} (hc : ∀ i j, c i j = true → C i j) (h : ∀ F i j, Rp K F (g i j) (gd i j)) : Op2 K (rI C g) (fIc c gd) := fun F H x y dx dy d s rx ry e Q q => by
  unfold fIc at e
  split at e
  · split at e
    · rename_i hh
      cases e
      cases rx; cases ry
      exact ⟨_, _, rfl, rfl, hc _ _ hh, rv_here s (h F _ _) q⟩
    · cases e
  · cases e
def fAddI := fI fun i j => .int (i + j)
def fSub := fI fun i j => .int (i - j)
def fMul := fIc (fun i j => decide (i.natAbs < 2 ^ 64) || decide (j.natAbs < 2 ^ 64)) fun i j => .int (i * j)
def fDiv := fIc (fun _ j => decide (j ≠ 0) && decide (j.natAbs < 1073741824)) fun i j => .int (i.fdiv j)
def fMod := fIc (fun _ j => decide (j ≠ 0)) fun i j => .int (i.fmod j)
def fPow := fIc (fun i j => decide (0 ≤ j) && decide (j ≤ 1000000) && decide (i.natAbs < 2 ^ 64)) fun i j => .int (i ^ j.toNat)
def fLt := fI fun i j => .bool (decide (i < j))
def fLe := fI fun i j => .bool (decide (i ≤ j))
def fGt := fI fun i j => .bool (decide (j < i))
def fGe := fI fun i j => .bool (decide (j ≤ i))
theorem o2_add : Op2 K (rI0 fun i j => V.int (i + j)) fAddI := o2_I fun _ _ _ => .int _
theorem o2_sub : Op2 K (rI0 fun i j => V.int (i - j)) fSub := o2_I fun _ _ _ => .int _
theorem o2_lt : Op2 K (rI0 fun i j => V.bl (decide (i < j))) fLt := o2_I fun _ _ _ => .bl _
theorem o2_le : Op2 K (rI0 fun i j => V.bl (decide (i ≤ j))) fLe := o2_I fun _ _ _ => .bl _
theorem o2_gt : Op2 K (rI0 fun i j => V.bl (decide (j < i))) fGt := o2_I fun _ _ _ => .bl _
theorem o2_ge : Op2 K (rI0 fun i j => V.bl (decide (j ≤ i))) fGe := o2_I fun _ _ _ => .bl _
theorem o2_mul : Op2 K (rI CMul fun i j => V.int (i * j)) fMul := o2_Ic (fun i j h => by
  simp only [Bool.or_eq_true, decide_eq_true_eq] at h
  rcases h with h | h
  · exact .inl ⟨by omega, by omega⟩
  · exact .inr ⟨by omega, by omega⟩) fun _ _ _ => .int _
theorem o2_div : Op2 K (rI CDivN fun i j => V.int (i.fdiv j)) fDiv := o2_Ic (fun i j h => by
  simp only [Bool.and_eq_true, decide_eq_true_eq] at h
  exact h) fun _ _ _ => .int _
theorem o2_mod : Op2 K (rI (fun x j => j ≠ 0) fun i j => V.int (i.fmod j)) fMod := o2_Ic (fun i j h => of_decide_eq_true h) fun _ _ _ => .int _
theorem o2_pow : Op2 K (rI CPow fun i j => V.int (i ^ j.toNat)) fPow := o2_Ic (fun i j h => by
  simp only [Bool.and_eq_true, decide_eq_true_eq] at h
  exact ⟨h.1.1, h.1.2, h.2⟩) fun _ _ _ => .int _
/-- texts, lists -/
def fAddS : PyData → PyData → Option PyData
  | .str x, .str y => if x.length + y.length ≤ 16777216 then some (.str (x ++ y)) else none
  | _, _ => none
def fCat : PyData → PyData → Option PyData
  | .list x, .list y => if x.length + y.length ≤ 16777216 then some (.list (x ++ y)) else none
  | _, _ => none
def fAdd : PyData → PyData → Option PyData := fun x y => (fAddI x y).or ((fAddS x y).or (fCat x y))
theorem o2_addS : Op2 K (fun x y H Q => ∃ i j, x = V.str i ∧ y = V.str j ∧ i.length + j.length ≤ sizeLine ∧ Q (V.str (i ++ j)) H) fAddS := fun F H x y dx dy d s rx ry e Q q => by
  unfold fAddS at e
  split at e
  · split at e
    · rename_i hl
      cases e
      cases rx; cases ry
      exact ⟨_, _, rfl, rfl, by rw [sizeLine_eq]; exact hl, rv_here s (.str _) q⟩
    · cases e
  · cases e
theorem o2_cat : Op2 K rCat fCat := fun F H x y dx dy d s rx ry e Q q => by
  unfold fCat at e
  split at e
  · split at e
    · rename_i hl
      cases e
      obtain ⟨a, vs, rfl, h1, h2⟩ := rp_lst rx
      obtain ⟨b, us, rfl, h3, h4⟩ := rp_lst ry
      exact ⟨a, b, vs, us, rfl, rfl, s _ _ h1, s _ _ h3, by rw [sizeLine_eq, h2.length, h4.length]; exact hl, fun p hp => rv_lst s (h2.append h4) q hp⟩
    · cases e
  · cases e
theorem OpR.or {X : Cx} {f : Value → Value → Sem Value} {r r' : R2} (h : OpR X f r) (h' : OpR X f r') : OpR X f (fun x y H Q => r x y H Q ∨ r' x y H Q) := fun pins s σ H x y v u Q I r1 r2 h0 => by
  rcases h0 with z | z
  · exact h pins s σ H x y v u Q I r1 r2 z
  · exact h' pins s σ H x y v u Q I r1 r2 z
theorem IxR.or {X : Cx} {r r' : R2} (h : IxR X r) (h' : IxR X r') : IxR X (fun x y H Q => r x y H Q ∨ r' x y H Q) := fun v1 s1 pins s σ H x y v u Q I r1 r2 h0 hh => by
  rcases h0 with z | z
  · exact h v1 s1 pins s σ H x y v u Q I r1 r2 z hh
  · exact h' v1 s1 pins s σ H x y v u Q I r1 r2 z hh
theorem CallR.or {X : Cx} {f : Value} {r r' : List V → Hp → VK → Prop} (h : CallR X f r) (h' : CallR X f r') : CallR X f (fun x H Q => r x H Q ∨ r' x H Q) := fun pins s σ H x v Q I r1 h0 => by
  rcases h0 with z | z
  · exact h pins s σ H x v Q I r1 z
  · exact h' pins s σ H x v Q I r1 z
def rAdd : R2 := fun x y H Q => rI0 (fun i j => V.int (i + j)) x y H Q ∨ ((∃ i j, x = V.str i ∧ y = V.str j ∧ i.length + j.length ≤ sizeLine ∧ Q (V.str (i ++ j)) H) ∨ rCat x y H Q)
theorem op_addA {X : Cx} : OpR X (binaryOp .Add) rAdd := OpR.or op_add (OpR.or op_add_str op_cat)
theorem o2_addA : Op2 K rAdd fAdd := Op2.or o2_add (Op2.or o2_addS o2_cat)

/-! ### equality -/
def fEqS : PyData → PyData → Option Bool
  | .none, .none => some true
  | .int a, .int b => some (decide (a = b))
  | .str a, .str b => some (decide (a = b))
  | .bool a, .bool b => some (decide (a = b))
  | .none, .int _ => some false
  | .int _, .none => some false
  | .none, .bool _ => some false
  | .bool _, .none => some false
  | .none, .str _ => some false
  | .str _, .none => some false
  | .int _, .str _ => some false
  | .str _, .int _ => some false
  | .bool _, .str _ => some false
  | .str _, .bool _ => some false
  | _, _ => none
theorem fEqS_ok {F : Hp} {v u : V} {d e : PyData} {b : Bool} (r : Rp K F v d) (r' : Rp K F u e) (h : fEqS d e = some b) : scal v u = true ∧ decide (v = u) = b := by
  cases r <;> cases r' <;> first | (cases h; done) | (cases h; exact ⟨rfl, by simp⟩)
def fEq (x y : PyData) : Option PyData := match fEqS x y with
  | some b => some (.bool b)
  | none => if SeqAt.shaped x && SeqAt.shaped y then some (.bool (x.eqv y)) else none
def fNe (x y : PyData) : Option PyData := match fEqS x y with
  | some b => some (.bool (!b))
  | none => if SeqAt.shaped x && SeqAt.shaped y then some (.bool (!x.eqv y)) else none
def rEqA (K : PySem.W.Frag) : R2 := fun x y H Q => rEq x y H Q ∨ rEqD K x y H Q
def rNeA (K : PySem.W.Frag) : R2 := fun x y H Q => rNe x y H Q ∨ rNeD K x y H Q
theorem o2_eq : Op2 K (rEqA K) fEq := fun F H x y dx dy d s rx ry e Q q => by
  unfold fEq at e
  split at e
  · rename_i b hb
    cases e
    obtain ⟨h1, h2⟩ := fEqS_ok rx ry hb
    exact .inl ⟨h1, by rw [h2]; exact rv_here s (.bl _) q⟩
  · split at e
    · rename_i hh
      cases e
      simp only [Bool.and_eq_true] at hh
      exact .inr ⟨dx, dy, Rp.dp s _ _ rx, Rp.dp s _ _ ry, hh.1, hh.2, rv_here s (.bl _) q⟩
    · cases e
theorem o2_ne : Op2 K (rNeA K) fNe := fun F H x y dx dy d s rx ry e Q q => by
  unfold fNe at e
  split at e
  · rename_i b hb
    cases e
    obtain ⟨h1, h2⟩ := fEqS_ok rx ry hb
    exact .inl ⟨h1, by rw [h2]; exact rv_here s (.bl _) q⟩
  · split at e
    · rename_i hh
      cases e
      simp only [Bool.and_eq_true] at hh
      exact .inr ⟨dx, dy, Rp.dp s _ _ rx, Rp.dp s _ _ ry, hh.1, hh.2, rv_here s (.bl _) q⟩
    · cases e
def fIsN : PyData → PyData → Option PyData
  | .none, .none => some (.bool true)
  | _, .none => some (.bool false)
  | _, _ => none
def fNotN : PyData → PyData → Option PyData
  | .none, .none => some (.bool false)
  | _, .none => some (.bool true)
  | _, _ => none
theorem o2_isN : Op2 K (fun x y H Q => y = V.non ∧ Q (V.bl (decide (x = V.non))) H) fIsN := fun F H x y dx dy d s rx ry e Q q => by
  unfold fIsN at e
  split at e
  · cases e; cases rx; cases ry
    exact ⟨rfl, rv_here s (.bl true) q⟩
  · rename_i hn
    cases e; cases ry
    have : x ≠ .non := fun z => by subst z; cases rx; exact hn rfl
    refine ⟨rfl, ?_⟩
    rw [decide_eq_false this]
    exact rv_here s (.bl false) q
  · cases e
theorem o2_notN : Op2 K (fun x y H Q => y = V.non ∧ Q (V.bl !decide (x = V.non)) H) fNotN := fun F H x y dx dy d s rx ry e Q q => by
  unfold fNotN at e
  split at e
  · cases e; cases rx; cases ry
    exact ⟨rfl, rv_here s (.bl false) q⟩
  · rename_i hn
    cases e; cases ry
    have : x ≠ .non := fun z => by subst z; cases rx; exact hn rfl
    refine ⟨rfl, ?_⟩
    rw [decide_eq_false this]
    exact rv_here s (.bl true) q
  · cases e

/-! ### in -/
def flatD : PyData → Bool
  | .none => true
  | .bool _ => true
  | .int _ => true
  | .str _ => true
  | _ => false
def eqD : PyData → PyData → Bool
  | .none, .none => true
  | .bool a, .bool b => a == b
  | .bool a, .int b => (if a then (1 : Int) else 0) == b
  | .int a, .bool b => a == (if b then (1 : Int) else 0)
  | .int a, .int b => a == b
  | .str a, .str b => a == b
  | _, _ => false
def inD (x : PyData) (xs : List PyData) : Bool := xs.any fun y => eqD y x
theorem flat_rp {F : Hp} {v : V} {d : PyData} (r : Rp K F v d) (h : flatD d = true) : flatV v = true := by
  cases r <;> first | rfl | cases h
theorem eqD_rp {F : Hp} {v u : V} {d e : PyData} (r : Rp K F v d) (r' : Rp K F u e) (h : flatD d = true) (h' : flatD e = true) : eqV v u = eqD d e := by
  cases r <;> cases r' <;> first | rfl | cases h | cases h'
theorem inD_rp {F : Hp} {u : V} {e : PyData} (r' : Rp K F u e) (h' : flatD e = true) : ∀ {vs : List V} {ds : List PyData}, RpAll K F vs ds → ds.all flatD = true → vs.all flatV = true ∧ inV u vs = inD e ds
  | _, _, .nil, _ => ⟨rfl, rfl⟩
  | _, _, .cons r t, h => by
    simp only [List.all_cons, Bool.and_eq_true] at h
    obtain ⟨h1, h2⟩ := inD_rp r' h' t h.2
    refine ⟨?_, ?_⟩
    · simp only [List.all_cons, Bool.and_eq_true]
      exact ⟨flat_rp r h.1, h1⟩
    · unfold inV inD at h2 ⊢
      rw [List.any_cons, List.any_cons, h2, eqD_rp r r' h.1 h']
def fInSeq (neg : Bool) (x y : PyData) : Option PyData := match seqOf y with
  | some ys => if flatD x && ys.all flatD then some (.bool (if neg then !inD x ys else inD x ys)) else none
  | none => none
theorem rp_seq {F : Hp} {v : V} {d : PyData} {ds : List PyData} (r : Rp K F v d) (h : seqOf d = some ds) {H : Hp} (s : Same F H) : ∃ p us, v = .ref p ∧ (SqL K H p us ∨ SqT K H p us) ∧ RpAll K F us ds := by
  cases d <;> simp [seqOf] at h
  · subst h
    obtain ⟨p, us, e, h1, h2⟩ := rp_lst r
    exact ⟨p, us, e, .inl (.inl (.inl (s _ _ h1))), h2⟩
  · subst h
    obtain ⟨p, us, e, h1, h2⟩ := rp_tup r
    exact ⟨p, us, e, .inr (sqT_mono s h1), h2⟩
theorem o2_inSeq (neg : Bool) : Op2 K (rIn K neg) (fInSeq neg) := fun F H x y dx dy d s rx ry e Q q => by
  unfold fInSeq at e
  split at e
  · rename_i ys hy
    split at e
    · rename_i hh
      cases e
      simp only [Bool.and_eq_true] at hh
      obtain ⟨p, us, rfl, h1, h2⟩ := rp_seq ry hy s
      obtain ⟨h3, h4⟩ := inD_rp rx hh.1 h2 hh.2
      refine ⟨p, us, rfl, h1, flat_rp rx hh.1, h3, ?_⟩
      rw [h4]
      exact rv_here s (.bl _) q
    · cases e
  · cases e
def fInSign (neg : Bool) : PyData → PyData → Option PyData
  | .str ⟨⟨[c]⟩⟩, .str z => some (.bool (if neg then !decide (c ∈ z.cps.toList) else decide (c ∈ z.cps.toList)))
  | _, _ => none
def rInSign (neg : Bool) : R2 := fun x y H Q => ∃ c z, x = V.str { cps := #[c] } ∧ y = V.str z ∧ Q (V.bl (if neg then !decide (c ∈ z.cps.toList) else decide (c ∈ z.cps.toList))) H
theorem o2_inSign (neg : Bool) : Op2 K (rInSign neg) (fInSign neg) := fun F H x y dx dy d s rx ry e Q q => by
  unfold fInSign at e
  split at e
  · cases e
    cases rx; cases ry
    exact ⟨_, _, rfl, rfl, rv_here s (.bl _) q⟩
  · cases e
theorem op_inSign {X : Cx} : OpR X (compareOp .In) (rInSign false) := op_in_sign
theorem op_notInSign {X : Cx} : OpR X (compareOp .NotIn) (rInSign true) := op_notIn_sign
def rInA (K : PySem.W.Frag) (neg : Bool) : R2 := fun x y H Q => rIn K neg x y H Q ∨ rInSign neg x y H Q
def fIn (neg : Bool) : PyData → PyData → Option PyData := fun x y => (fInSeq neg x y).or (fInSign neg x y)
theorem op_inA {X : Cx} : OpR X (compareOp .In) (rInA X.K false) := OpR.or op_in_seq op_inSign
theorem op_notInA {X : Cx} : OpR X (compareOp .NotIn) (rInA X.K true) := OpR.or op_notIn_seq op_notInSign
theorem o2_inA (neg : Bool) : Op2 K (rInA K neg) (fIn neg) := Op2.or (o2_inSeq neg) (o2_inSign neg)

/-! ### subscripts -/
def fIxL : PyData → PyData → Option PyData
  | .list ds, .int i => atI ds i
  | _, _ => none
def fIxT : PyData → PyData → Option PyData
  | .tuple ds, .int i => atI ds i
  | _, _ => none
def fIxS : PyData → PyData → Option PyData
  | .str z, .int i => if z.length ≤ 16777216 then (atI z.cps.toList i).map fun c => .str ⟨#[c]⟩ else none
  | _, _ => none
theorem atI_rp {F : Hp} {vs : List V} {ds : List PyData} {i : Int} {d : PyData} (r : RpAll K F vs ds) (h : atI ds i = some d) : ∃ v, atI vs i = some v ∧ Rp K F v d := by
  unfold atI at h ⊢
  rw [r.length]
  cases e : ixN ds.length i with
  | none => rw [e] at h; cases h
  | some j =>
    rw [e] at h
    have h' : ds[j]? = some d := h
    exact r.get h'
theorem o2_ixL : Op2 K (rIxL K) fIxL := fun F H x y dx dy d s rx ry e Q q => by
  unfold fIxL at e
  split at e
  · obtain ⟨a, vs, rfl, h1, h2⟩ := rp_lst rx
    cases ry
    obtain ⟨v, h3, h4⟩ := atI_rp h2 e
    exact ⟨a, vs, _, v, rfl, rfl, .inl (.inl (s _ _ h1)), h3, rv_here s h4 q⟩
  · cases e
theorem o2_ixT : Op2 K (rIxT K) fIxT := fun F H x y dx dy d s rx ry e Q q => by
  unfold fIxT at e
  split at e
  · obtain ⟨a, vs, rfl, h1, h2⟩ := rp_tup rx
    cases ry
    obtain ⟨v, h3, h4⟩ := atI_rp h2 e
    exact ⟨a, vs, _, v, rfl, rfl, sqT_mono s h1, h3, rv_here s h4 q⟩
  · cases e
theorem o2_ixS : Op2 K rIxS fIxS := fun F H x y dx dy d s rx ry e Q q => by
  unfold fIxS at e
  split at e
  · split at e
    · rename_i z i hl
      cases rx; cases ry
      cases e1 : atI z.cps.toList i with
      | none => rw [e1] at e; cases e
      | some c =>
        rw [e1] at e
        cases e
        exact ⟨_, _, c, rfl, rfl, by rw [sizeLine_eq]; exact hl, e1, rv_here s (.str _) q⟩
    · cases e
  · cases e
def rIx (K : PySem.W.Frag) : R2 := fun x y H Q => rIxL K x y H Q ∨ (rIxT K x y H Q ∨ rIxS x y H Q)
def fIx : PyData → PyData → Option PyData := fun x y => (fIxL x y).or ((fIxT x y).or (fIxS x y))
theorem ix_A {X : Cx} : IxR X (rIx X.K) := IxR.or ix_list (IxR.or ix_tup ix_str)
theorem o2_ix : Op2 K (rIx K) fIx := Op2.or o2_ixL (Op2.or o2_ixT o2_ixS)

/-! ### built-ins by name -/
def fLen : List PyData → Option PyData
  | [.str z] => if z.length ≤ 16777216 then some (.int z.length) else none
  | [.tuple ds] => some (.int ds.length)
  | [.list ds] => some (.int ds.length)
  | _ => none
theorem oc_len : OpC K (fun xs H Q => ∃ x n, xs = [x] ∧ LenV K x H n ∧ Q (V.int ↑n) H) fLen := fun F H vs ds d s r e Q q => by
  unfold fLen at e
  split at e
  · rename_i z
    split at e
    · rename_i hl
      cases e
      cases r with
      | cons r1 r2 =>
        cases r2
        cases r1
        exact ⟨_, z.length, rfl, ⟨by rw [sizeLine_eq]; exact hl, rfl⟩, rv_here s (.int _) q⟩
    · cases e
  · cases e
    cases r with
    | cons r1 r2 =>
      cases r2
      obtain ⟨a, us, rfl, h1, h2⟩ := rp_tup r1
      exact ⟨_, _, rfl, .inr ⟨us, sqT_mono s h1, rfl⟩, by rw [h2.length]; exact rv_here s (.int _) q⟩
  · cases e
    cases r with
    | cons r1 r2 =>
      cases r2
      obtain ⟨a, us, rfl, h1, h2⟩ := rp_lst r1
      exact ⟨_, _, rfl, .inl ⟨us, .inl (.inl (s _ _ h1)), rfl⟩, by rw [h2.length]; exact rv_here s (.int _) q⟩
  · cases e
def fIntS : List PyData → Option PyData
  | [.str z] => if z.length ≤ 640 then (intText? z).map .int else none
  | _ => none
theorem oc_intS : OpC K (fun xs H Q => ∃ a n, xs = [V.str a] ∧ intText? a = some n ∧ a.length ≤ 640 ∧ Q (V.int n) H) fIntS := fun F H vs ds d s r e Q q => by
  unfold fIntS at e
  split at e
  · rename_i z
    split at e
    · rename_i hl
      cases e1 : intText? z with
      | none => rw [e1] at e; cases e
      | some n =>
        rw [e1] at e
        cases e
        cases r with
        | cons r1 r2 =>
          cases r2
          cases r1
          exact ⟨z, n, rfl, e1, hl, rv_here s (.int _) q⟩
    · cases e
  · cases e
def fInt1 : List PyData → Option PyData
  | [.int i] => some (.int i)
  | [.bool k] => some (.int (if k = true then 1 else 0))
  | _ => none
theorem oc_int1 : OpC K (fun xs H Q => (∃ i, xs = [V.int i] ∧ Q (V.int i) H) ∨ ∃ k, xs = [V.bl k] ∧ Q (V.int (if k = true then 1 else 0)) H) fInt1 := fun F H vs ds d s r e Q q => by
  unfold fInt1 at e
  split at e
  · cases e
    cases r with
    | cons r1 r2 =>
      cases r2
      cases r1
      exact .inl ⟨_, rfl, rv_here s (.int _) q⟩
  · cases e
    cases r with
    | cons r1 r2 =>
      cases r2
      cases r1
      exact .inr ⟨_, rfl, rv_here s (.int _) q⟩
  · cases e
def rInt : List V → Hp → VK → Prop := fun xs H Q => (∃ a n, xs = [V.str a] ∧ intText? a = some n ∧ a.length ≤ 640 ∧ Q (V.int n) H) ∨ ((∃ i, xs = [V.int i] ∧ Q (V.int i) H) ∨ ∃ k, xs = [V.bl k] ∧ Q (V.int (if k = true then 1 else 0)) H)
def fInt : List PyData → Option PyData := fun x => (fIntS x).or (fInt1 x)
theorem call_intA {X : Cx} : CallR X (.type "int") rInt := CallR.or call_int_str call_int1
theorem oc_int : OpC K rInt fInt := OpC.or oc_intS oc_int1
def iStr' (i : Int) : Str := Str.ofString (toString i)
def fStr : List PyData → Option PyData
  | [.int i] => if i.natAbs.log2 < 1920 then some (.str (iStr' i)) else none
  | _ => none
theorem oc_str : OpC K (fun xs H Q => ∃ i, xs = [V.int i] ∧ i.natAbs.log2 < 1920 ∧ Q (V.str (Str.ofString (toString i))) H) fStr := fun F H vs ds d s r e Q q => by
  unfold fStr at e
  split at e
  · split at e
    · rename_i hl
      cases e
      cases r with
      | cons r1 r2 =>
        cases r2
        cases r1
        exact ⟨_, rfl, hl, rv_here s (.str _) q⟩
    · cases e
  · cases e
def fAbs : List PyData → Option PyData
  | [.int i] => some (.int (if i < 0 then -i else i))
  | _ => none
theorem oc_abs : OpC K (fun xs H Q => ∃ i, xs = [V.int i] ∧ Q (V.int (if i < 0 then -i else i)) H) fAbs := fun F H vs ds d s r e Q q => by
  unfold fAbs at e
  split at e
  · cases e
    cases r with
    | cons r1 r2 =>
      cases r2
      cases r1
      exact ⟨_, rfl, rv_here s (.int _) q⟩
  · cases e
def boolsOf : List PyData → Option (List Bool)
  | [] => some []
  | .bool b :: r => (boolsOf r).map fun t => b :: t
  | _ :: _ => none
def fAll : List PyData → Option PyData
  | [.list ds] => (boolsOf ds).map fun bs => .bool (bs.all id)
  | _ => none
theorem bools_rp {F : Hp} : ∀ {vs : List V} {ds : List PyData} {bs : List Bool}, RpAll K F vs ds → boolsOf ds = some bs → vs = bs.map V.bl
  | _, _, _, .nil, e => by cases e; rfl
  | _, d :: ds, bs, .cons r t, e => by
    cases r <;> first | (unfold boolsOf at e; cases e; done) | skip
    rename_i b
    unfold boolsOf at e
    cases e1 : boolsOf ds with
    | none => rw [e1] at e; cases e
    | some cs =>
      rw [e1] at e
      cases e
      rw [bools_rp t e1]
      rfl
theorem oc_all : OpC K (rAll K) fAll := fun F H vs ds d s r e Q q => by
  unfold fAll at e
  split at e
  · rename_i ds'
    cases e1 : boolsOf ds' with
    | none => rw [e1] at e; cases e
    | some bs =>
      rw [e1] at e
      cases e
      cases r with
      | cons r1 r2 =>
        cases r2
        obtain ⟨a, us, rfl, h1, h2⟩ := rp_lst r1
        have := bools_rp h2 e1
        subst this
        exact ⟨a, bs, rfl, .inl (.inl (s _ _ h1)), rv_here s (.bl _) q⟩
  · cases e
def fTuple : List PyData → Option PyData
  | [.list ds] => some (.tuple ds)
  | [.tuple ds] => some (.tuple ds)
  | _ => none
theorem oc_tuple : OpC K (fun xs H Q => ∃ p ys, xs = [V.ref p] ∧ ((SqL K H p ys ∧ ∀ (l : Addr), H l = none → Q (V.ref l) (upd H l (HO.tup ys))) ∨ SqT K H p ys ∧ Q (V.ref p) H)) fTuple := fun F H vs ds d s r e Q q => by
  unfold fTuple at e
  split at e
  · cases e
    cases r with
    | cons r1 r2 =>
      cases r2
      obtain ⟨a, us, rfl, h1, h2⟩ := rp_lst r1
      exact ⟨a, us, rfl, .inl ⟨.inl (.inl (s _ _ h1)), fun l hl => rv_tup s h2 q hl⟩⟩
  · cases e
    cases r with
    | cons r1 r2 =>
      cases r2
      obtain ⟨a, us, rfl, h1, h2⟩ := rp_tup r1
      exact ⟨a, us, rfl, .inr ⟨sqT_mono s h1, rv_here s r1 q⟩⟩
  · cases e
def fList : List PyData → Option PyData
  | [.list ds] => some (.list ds)
  | [.tuple ds] => some (.list ds)
  | _ => none
theorem oc_list : OpC K (fun xs H Q => ∃ p ys, xs = [V.ref p] ∧ (SqL K H p ys ∨ SqT K H p ys) ∧ ∀ (l : Addr), H l = none → Q (V.ref l) (upd H l (HO.lst ys))) fList := fun F H vs ds d s r e Q q => by
  unfold fList at e
  split at e
  · cases e
    cases r with
    | cons r1 r2 =>
      cases r2
      obtain ⟨a, us, rfl, h1, h2⟩ := rp_lst r1
      exact ⟨a, us, rfl, .inl (.inl (.inl (s _ _ h1))), fun l hl => rv_lst s h2 q hl⟩
  · cases e
    cases r with
    | cons r1 r2 =>
      cases r2
      obtain ⟨a, us, rfl, h1, h2⟩ := rp_tup r1
      exact ⟨a, us, rfl, .inr (sqT_mono s h1), fun l hl => rv_lst s h2 q hl⟩
  · cases e
end
end Pd

set_option maxHeartbeats 2000000
/-! Pd6: rules that the layer lacks: a starred target, in over a tuple of data, repr of data. -/
namespace Pd
open PySem PySem.Spec PyProof.Rows L2

section
variable {X : Cx} {pos : Pos}
theorem pgs_star {e : Expr} {p : Pos} {es : List Expr} {t : TG} {u : TGs} (h1 : PG X e t) (h2 : PGs X es u) : PGs X (.Starred e p :: es) (gCons t u) := by
  refine ⟨fun pins s σ H vs us Q I r h => ?_⟩
  obtain ⟨v, vr, e1, h⟩ := h
  subst e1
  cases r with
  | cons r rr =>
    have hs : (assignEach (.Starred e p :: es) X.env).map (·.2) = assign e X.env :: (assignEach es X.env).map (·.2) := rfl
    rw [hs]
    refine assignInOrder_cons (thn (h1.run pins s σ H _ _ _ I r h) fun _ s1 ⟨σ1, H1, I1, q1⟩ => ?_)
    exact h2.run pins s1 σ1 H1 _ _ Q I1 rr q1
/-- x, *xs = a tuple -/
def gStar1 (K : PySem.W.Frag) (t : TGs) : TG := fun v σ H Q => ∃ a x xs, v = .ref a ∧ SqT K H a (x :: xs) ∧ xs.length ≤ 16000 ∧ ∀ p, H p = none → t [x, .ref p] σ (upd H p (.lst xs)) Q
theorem pg_star1 {es : List Expr} {k : Nat} {t : TGs} (hc : X.calm = true) (h : PGs X es t) (hn : (assignEach es X.env).length = 2) (hst : (assignEach es X.env).findIdx? (·.1) = some 1) : PG X (.Tuple es k pos) (gStar1 X.K t) := by
  refine ⟨fun pins s σ H v u Q I r hw => ?_⟩
  obtain ⟨l, x, xs, e1, hq, hl, hw⟩ := hw
  subst e1
  cases r
  have hh := I.ok.hd hc
  obtain ⟨its, rv, ht, hz⟩ := I.tuple hq
  have hlen := rv.length
  rw [PyProof.Rows.assign_Tuple]
  refine wpAny_bind (wpAny_standAt ?_)
  unfold unpack
  rw [hn, hst]
  obtain ⟨w0, ws, rfl⟩ : ∃ w0 ws, its = w0 :: ws := by
    cases its with
    | nil => simp at hlen
    | cons a b => exact ⟨a, b, rfl⟩
  have hll : l < s.heap.objs.size := by obtain ⟨o, ho, _⟩ := ht; exact Heap.lt_size ho
  have hlt : l ≠ s.heap.objs.size := Nat.ne_of_lt hll
  have hws : ws.length = xs.length := by simpa using hlen.symm
  refine wpAny_bind (wpAny_holding ?_)
  unfold unpackItems
  refine wpAny_bind ?_
  unfold notIterableAtAll
  refine wpAny_bind (wpAny_specialOf ht.typeIs slot_tuple_iter.lookup ?_)
  refine wpAny_pure ?_
  simp only [Bool.false_eq_true, if_false]
  refine wpAny_bind (wpAny_holding (iter_tuple ht ?_))
  refine wpAny_bind (wpAny_holding (draw_tuple hlt 1 0 _ _ ⟨_, Heap.get?_push_size _ rfl, rfl, rfl⟩ (ht.push _) (by simp) fun h₁ hit₁ hs₁ => ?_))
  have hl₁ : IsTup h₁ l (w0 :: ws).toArray := (ht.push _).extBut hs₁.extBut hlt
  rw [Nat.zero_add] at hit₁
  have hit₁' := hit₁
  obtain ⟨oi, hoi, _⟩ := hit₁'
  have hl₁' := hl₁
  obtain ⟨ol, hol, _⟩ := hl₁'
  have hfirst : List.take 1 (List.drop 0 (w0 :: ws).toArray.toList) = [w0] := by simp
  rw [hfirst]
  rw [if_neg (by simp)]
  refine wpAny_bind (wpAny_holding (PySem.W.kun_collect (s := { s with heap := h₁ }) (T := "tuple_iterator") (.inr (.inr (.inr rfl))) (Walks.tuple (A := X.A.in1) hh s.heap.objs.size l hlt (w0 :: ws).toArray) (fun j u st => st.1.typeIs) (k := 1) (by simp) ⟨hit₁, hl₁⟩ (Heap.lt_size hoi) (Heap.lt_size hol) (fun h₂ tk hk => ?_) (by rw [sizeLine_eq]; simp; omega)))
  have hrest : List.drop 1 (w0 :: ws).toArray.toList = ws := by simp
  rw [hrest]
  show wpAny _ _ (if ws.length < 2 - 1 - 1 then _ else _) _ _ _
  rw [if_neg (by omega)]
  show wpAny _ _ (newList (ws.take (ws.length - (2 - 1 - 1))) >>= fun d => pure ([w0] ++ [d] ++ ws.drop (ws.length - (2 - 1 - 1)))) _ _ _
  have e1 : ws.take (ws.length - (2 - 1 - 1)) = ws := by simp
  have e2 : ws.drop (ws.length - (2 - 1 - 1)) = [] := by simp
  rw [e1, e2]
  have I1 : Inv X pins σ H { s with heap := h₂, toks := tk } := I.kept (t' := tk) fun b o e => hk b o (Nat.ne_of_lt (Heap.lt_size e)) (hs₁.extBut b o (Nat.ne_of_lt (Heap.lt_size e)) (Heap.get?_push_of_some _ e))
  refine wpAny_bind (wpAny_newList ?_ (by rw [hws, sizeLine_eq]; omega))
  refine wpAny_pure ?_
  cases rv with
  | cons r0 rs =>
    have hf : H h₂.objs.size = none := I1.hok.fresh (Nat.le_refl _)
    have I2 : Inv X pins σ (upd H h₂.objs.size (.lst xs)) { s with heap := h₂.push { cls := .type "list", data := .seq ws.toArray }, toks := tk } :=
      I1.laid (t' := tk) (fun b u e => Heap.get?_push_of_some _ e) (Nat.le_refl _) ⟨by rw [sizeLine_eq]; omega, ws, 0, rs, Heap.get?_push_size _ rfl⟩
    exact h.run pins _ σ _ [x, .ref h₂.objs.size] _ Q I2 (.cons r0 (.cons rfl .nil)) (hw _ hf)
end

section
variable {X : Cx}
/-- in a tuple of data -/
def rInTD (K : PySem.W.Frag) (neg : Bool) : R2 := fun x y H Q => ∃ d ds, Dp K H x d ∧ Dp K H y (.tuple ds) ∧ SeqAt.shaped d = true ∧ SeqAt.shaped (.tuple ds) = true ∧ Q (.bl (if neg then !ds.any fun z => PyData.eqv z d else ds.any fun z => PyData.eqv z d)) H
theorem op_inTD (hu : X.A.units + 65 < cLine) : OpR X (compareOp .In) (rInTD X.K false) := by
  intro pins s σ H x y v u Q I rx ry h
  obtain ⟨d, ds, hd, he, sd, se, q⟩ := h
  obtain ⟨as, r1⟩ := Dp.reads I d x v hd rx
  obtain ⟨bs, r2⟩ := Dp.reads I (.tuple ds) y u he ry
  exact SeqAt.in_tuple_reads r2 r1 (SeqAt.canLay_of_shaped se) (SeqAt.canLay_of_shaped sd) (room_in_shaped sd hu) ⟨.bl _, H, I, rfl, q⟩
/-- repr of data at an address -/
def rRepr (K : PySem.W.Frag) : List V → Hp → VK → Prop := fun xs H Q => ∃ a d, xs = [.ref a] ∧ Dp K H (.ref a) d ∧ d.showable = true ∧ d.hasDict = false ∧ d.depth ≤ 60 ∧ d.shown.length ≤ sizeLine ∧ Q (.str d.shown) H
theorem cr_repr (hg : X.A.guards = some []) (hu : X.A.units + 65 < cLine) : CallR X (.builtin "repr") (rRepr X.K) := by
  intro pins s σ H xs us Q I r h
  obtain ⟨a, d, rfl, hd, hs, hn, hdp, hz, q⟩ := h
  have := Vals.ref1 r
  subst this
  obtain ⟨as, r1⟩ := Dp.reads I d (.ref a) (.ref a) hd rfl
  exact repr_of_reads' r1 hs (PyData.noDict_hsm hn) hg (by omega) (fun _ _ e => e) (fun h' u tk hk => ⟨.str d.shown, H, I.kept (t' := tk) hk, ⟨u, rfl⟩, q⟩) hz
end
end Pd

set_option maxHeartbeats 2000000
/-! Pd7: more expressions and statements as data. -/
namespace Pd
open PySem PySem.Spec PyProof.Rows L2

section
variable {C : Cx → Prop} {P : Program} {w : World} {K : PySem.W.Frag} {mg : Str → Option Value} {base : Heap} {N : List Str} {sc : Scope} {k : Nat} {top : Bool}

/-! ### x, *xs = .. -/
def gSt (i j : Nat) : TgD := fun d => match d with
  | .tuple (x :: xs) => if xs.length ≤ 16000 then some [(i, x), (j, .list xs)] else none
  | _ => none
theorem tgAt_st (i j : Nat) : TgAt (gSt i j) [i, j] := fun d l e a h => by
  unfold gSt at e
  split at e
  · split at e
    · cases e; simpa using h
    · cases e
  · cases e
/-- a target that lays new data -/
structure PGf (C : Cx → Prop) (K : PySem.W.Frag) (tg : Expr) (g : TgD) : Prop where
  ex : ∃ tgx, (∀ X, C X → PG X tg tgx) ∧ ∀ F H σ v d l, Same F H → Rp K F v d → g d = some l → ∀ Q : L2.St → Hp → Prop, (∀ m F' H', Same H H' → Gr F F' H → Same F' H' → BindV K F' m l → Q (setV σ m) H') → tgx v σ H Q
theorem pgf_st (Z : Fam C P w K mg base N sc k top) (i j : Nat) {x y : Str} {p1 p2 p3 pos : Pos} {kk : Nat} (hi : okS N sc top i x = true) (hj : okS N sc top j y = true) : PGf C K (.Tuple [.Name x p1, .Starred (.Name y p2) p3] kk pos) (gSt i j) :=
  ⟨gStar1 K (gCons (gName i) (gCons (gName j) gNil)), fun X c => by
    have z := okS_ok Z hi c
    have z' := okS_ok Z hj c
    have := pg_star1 (k := kk) (pos := pos) (Z.calm X c) (pgs_cons (pg_name (pos := p1) (Z.ndX c) z.1 z.2.1 z.2.2) (pgs_star (p := p3) (pg_name (pos := p2) (Z.ndX c) z'.1 z'.2.1 z'.2.2) pgs_nil)) rfl rfl
    rw [Z.K_ X c] at this
    exact this, fun F H σ v d l s r e Q q => by
    unfold gSt at e
    split at e
    · split at e
      · rename_i d0 ds hl
        cases e
        obtain ⟨a, vs, rfl, h1, h2⟩ := rp_tup r
        cases h2 with
        | @cons v0 vs _ _ r0 rs =>
          refine ⟨a, v0, vs, rfl, sqT_mono s h1, by rw [rs.length]; exact hl, fun p hp => ⟨_, _, rfl, _, _, rfl, rfl, ?_⟩⟩
          have g := gr_upd (o := HO.lst vs) s hp
          exact q [(i, v0), (j, .ref p)] (upd F p (.lst vs)) (upd H p (.lst vs)) (same_upd hp) g (same_updB s) (.cons (Rp.mono g.1 _ _ r0) (.cons (.lst upd_same (RpAll.mono g.1 _ _ rs)) .nil))
      · cases e
    · cases e⟩
theorem ps1_asgF {tg e : Expr} {g : TgD} {r : E1} {pos : Pos} (he : PEd C K e r) (hg : PGf C K tg g) (h1 : ∀ env, swapsWithSole [tg] e pos.line env = pure false := by intro _; rfl) (h2 : ∀ env, swappedStores [tg] e env = pure none := by intro _; rfl)
    (h3 : ∀ env, List.map (fun x => x.snd) (assignEach [tg] env) = [assign tg env] := by intro _; rfl) : PSd C K (.Assign [tg] e pos) (sAsg g r) := by
  obtain ⟨te, he, se⟩ := he.ex
  obtain ⟨gx, hg, sg⟩ := hg.ex
  refine ⟨tAsg te gx, fun X c => ps_asg (he X c) (hg X c) (h1 X.env) (h2 X.env) (h3 X.env), fun F0 B F H σ ρ fl D R e q => ?_⟩
  unfold sAsg at e
  cases e1 : r ρ with
  | none => rw [e1] at e; cases e
  | some d =>
    rw [e1] at e
    have e' : (g d).map (fun l => Fl.nx (setD ρ l)) = some fl := e
    cases e2 : g d with
    | none => rw [e2] at e'; cases e'
    | some l =>
      rw [e2] at e'
      cases e'
      refine se F H σ ρ d R.r e1 _ fun v F1 H1 s1 g1 f1 r1 => ?_
      refine sg F1 H1 σ v d l f1 r1 e2 _ fun m F2 H2 s2 g2 f2 b2 => ?_
      exact q _ F2 H2 (RelS.sets b2 ((R.grow s1 g1 f1).grow s2 g2 f2))

/-! ### isinstance -/
def tyD : PyData → String
  | .none => "NoneType"
  | .bool _ => "bool"
  | .int _ => "int"
  | .str _ => "str"
  | .list _ => "list"
  | .tuple _ => "tuple"
  | .dict _ => "dict"
theorem tyD_ok {F H : Hp} {v : V} {d : PyData} (s : Same F H) (r : Rp K F v d) : TyX K H v (.type (tyD d)) := by
  cases r with
  | non => exact .base .non
  | bl b => exact .base (.bl b)
  | int i => exact .base (.int i)
  | str x => exact .base (.str x)
  | lst h _ => exact .base (.lst (s _ _ h))
  | tup h _ =>
    rcases sqT_mono s h with (h | ⟨o, h⟩) | ⟨o, its, n, h1, h2, _⟩
    · exact .base (.tup h)
    · exact .fTuple h
    · exact .kTuple h1 h2
def isB (T : String) (d : PyData) : Bool := match d with
  | .none => T == "NoneType"
  | .bool _ => T == "bool" || T == "int"
  | .int _ => T == "int"
  | .str _ => T == "str"
  | .list _ => T == "list"
  | .tuple _ => T == "tuple"
  | .dict _ => T == "dict"
def TyOne (T : String) : Prop := ∀ d : PyData, kitB (tyD d) T = some (isB T d)
theorem ty_int : TyOne "int" := fun d => by cases d <;> (simp only [tyD, isB]; decide +kernel)
theorem ty_str : TyOne "str" := fun d => by cases d <;> (simp only [tyD, isB]; decide +kernel)
theorem ty_bool : TyOne "bool" := fun d => by cases d <;> (simp only [tyD, isB]; decide +kernel)
theorem ty_tuple : TyOne "tuple" := fun d => by cases d <;> (simp only [tyD, isB]; decide +kernel)
theorem ty_list : TyOne "list" := fun d => by cases d <;> (simp only [tyD, isB]; decide +kernel)
theorem ty_dict : TyOne "dict" := fun d => by cases d <;> (simp only [tyD, isB]; decide +kernel)
def fIsi (T : String) (d : PyData) : Option PyData := some (.bool (isB T d))
/-- isinstance(e, T) -/
theorem pd_isi (Z : Fam C P w K mg base N sc k top) {T : String} {x : Str} {e : Expr} {r : E1} {p p2 pos : Pos} (hT : TyOne T) (he : PEd C K e r) (hm : mg "isinstance" = none) (hmx : mg x = none) (hv : bootBuiltins x = some (.type T)) (h : okG sc "isinstance" = true) (hx : okG sc x = true)
    (hs : ∀ env, starEach [e, .Name x p2] env = (false, eval e env) :: starEach [.Name x p2] env := by intro _; rfl) :
    PEd C K (.Call (.Name "isinstance" p) [e, .Name x p2] [] pos) (rE1 (fIsi T) r) := by
  unfold okG at h hx
  simp only [Bool.and_eq_true] at h hx
  obtain ⟨te, he, se⟩ := he.ex
  refine ⟨tCB (rIsi K) (tCons te (tCons (tC (.ty T)) tNil)), fun X c => ?_, fun F H σ ρ d R e Q q => ?_⟩
  · have hr := call_isi (X := X)
    rw [Z.K_ X c] at hr
    exact pe_callB hr (Z.gl h.1 c) (by rw [Z.mg_ X c]; exact hm) (by decide +kernel) (pa_cons (he X c) (pa_cons (pe_bltn (Z.gl hx.1 c) (by rw [Z.mg_ X c]; exact hmx) hv (by rfl) (plainN_n hx.2) (plainN_d hx.2)) pa_nil rfl) (hs X.env)) (plainN_n h.2) (plainN_d h.2) (hs X.env) rfl
  · obtain ⟨dx, e1, e2⟩ := bind1 e
    unfold fIsi at e2
    cases e2
    refine se F H σ ρ dx R e1 _ fun v F1 H1 s1 g1 f1 r1 => ?_
    exact ⟨v, .ty T, _, _, _, rfl, .ty T, tyD_ok f1 r1, kit_ty (hT dx), q _ F1 H1 s1 g1 f1 (.bl _)⟩
/-- isinstance(e, (T, U)) -/
def fIsi2 (T U : String) (d : PyData) : Option PyData := some (.bool (isB T d || isB U d))
theorem kit_two {a T U : String} {b c : Bool} (h : kitB a T = some b) (h' : kitB a U = some c) : PySem.W.kitAny K (.type a) [.type T, .type U] = some (b || c) := by
  have h1 := kit_ty (K := K) h
  have h2 := kit_ty (K := K) h'
  cases b <;> cases c <;> simp [PySem.W.kitAny, h1, h2]
theorem pd_isi2 (Z : Fam C P w K mg base N sc k top) {T U : String} {x y : Str} {e : Expr} {r : E1} {p p2 p3 p4 pos : Pos} {kk : Nat} (hT : TyOne T) (hU : TyOne U) (he : PEd C K e r) (hm : mg "isinstance" = none) (hmx : mg x = none) (hmy : mg y = none) (hv : bootBuiltins x = some (.type T)) (hv' : bootBuiltins y = some (.type U))
    (h : okG sc "isinstance" = true) (hx : okG sc x = true) (hy : okG sc y = true)
    (hs : ∀ env, starEach [e, .Tuple [.Name x p2, .Name y p3] kk p4] env = (false, eval e env) :: starEach [.Tuple [.Name x p2, .Name y p3] kk p4] env := by intro _; rfl) :
    PEd C K (.Call (.Name "isinstance" p) [e, .Tuple [.Name x p2, .Name y p3] kk p4] [] pos) (rE1 (fIsi2 T U) r) := by
  unfold okG at h hx hy
  simp only [Bool.and_eq_true] at h hx hy
  obtain ⟨te, he, se⟩ := he.ex
  refine ⟨tCB (rIsiT K) (tCons te (tCons (tTup (tCons (tC (.ty T)) (tCons (tC (.ty U)) tNil))) tNil)), fun X c => ?_, fun F H σ ρ d R e Q q => ?_⟩
  · have hr := call_isiT (X := X)
    rw [Z.K_ X c] at hr
    exact pe_callB hr (Z.gl h.1 c) (by rw [Z.mg_ X c]; exact hm) (by decide +kernel) (pa_cons (he X c) (pa_cons (pe_tup (pa_cons (pe_bltn (Z.gl hx.1 c) (by rw [Z.mg_ X c]; exact hmx) hv (by rfl) (plainN_n hx.2) (plainN_d hx.2)) (pa_cons (pe_bltn (Z.gl hy.1 c) (by rw [Z.mg_ X c]; exact hmy) hv' (by rfl) (plainN_n hy.2) (plainN_d hy.2)) pa_nil rfl) rfl)) pa_nil rfl) (hs X.env)) (plainN_n h.2) (plainN_d h.2) (hs X.env) rfl
  · obtain ⟨dx, e1, e2⟩ := bind1 e
    unfold fIsi2 at e2
    cases e2
    refine se F H σ ρ dx R e1 _ fun v F1 H1 s1 g1 f1 r1 => ?_
    refine ⟨by show 2 ≤ sizeLine; decide, fun t ht => ?_⟩
    have s2 : Same H1 (upd H1 t (.tup [.ty T, .ty U])) := same_upd ht
    exact ⟨v, t, _, _, [.type T, .type U], _, rfl, upd_same, .cons (.ty T) (.cons (.ty U) .nil), tyD_ok (f1.trans s2) r1, kit_two (hT dx) (hU dx), q _ F1 _ (s1.trans s2) g1 (f1.trans s2) (.bl _)⟩

/-! ### texts -/
def fSplit : PyData → PyData → Option PyData
  | .str a, .str b => if !(b.length == 0) && decide (a.length + 2 ≤ 16777216) then some (.list ((Txt.split a b).map .str)) else none
  | _, _ => none
theorem ev_m1 {r : V → List V → Hp → VK → Prop} {f : PyData → PyData → Option PyData} {to te : TE} {ro re : E1} (hd : ∀ dx dy d, f dx dy = some d → ∃ a, dx = .str a)
    (hs : ∀ F H a y dy d, Same F H → Rp K F y dy → f (.str a) dy = some d → Rv1 K (fun z H Q => r (.str a) [z] H Q) y F H d)
    (so : ∀ F H σ ρ d, Rel K F H σ ρ → ro ρ = some d → EvD K to σ F H d) (se : ∀ F H σ ρ d, Rel K F H σ ρ → re ρ = some d → EvD K te σ F H d) :
    ∀ F H σ ρ d, Rel K F H σ ρ → rE2 f ro re ρ = some d → EvD K (tM1 r to te) σ F H d := fun F H σ ρ d R e Q q => by
  obtain ⟨x, y, e1, e2, e3⟩ := bind2 e
  obtain ⟨a, rfl⟩ := hd x y d e3
  refine so F H σ ρ _ R e1 _ fun v F1 H1 s1 g1 f1 r1 => ?_
  have := rp_str r1
  subst this
  refine ⟨⟨a, rfl⟩, se F1 H1 σ ρ y (R.grow s1 g1 f1) e2 _ fun u F2 H2 s2 g2 f2 r2 => ?_⟩
  exact hs F2 H2 a u y d f2 r2 e3 Q fun w' F3 H3 s3 g3 f3 r3 => q w' F3 H3 ((s1.trans s2).trans s3) ((g1.trans s1 g2).trans (s1.trans s2) g3) f3 r3
theorem pd_split {o e : Expr} {ro re : E1} {apos pos : Pos} (ho : PEd C K o ro) (he : PEd C K e re) (h1 : ∀ env, starEach [e] env = [(false, eval e env)] := by intro _; rfl) (h2 : ∀ env, attributeBase o (Str.ofString "split") env (eval o env) = eval o env := by intro _; rfl) (h3 : (apos.endLine == pos.line) = true := by rfl) :
    PEd C K (.Call (.Attribute o "split" apos) [e] [] pos) (rE2 fSplit ro re) := by
  obtain ⟨to, ho, so⟩ := ho.ex
  obtain ⟨te, he, se⟩ := he.ex
  refine ⟨_, fun X c => pe_split (ho X c) (he X c) (h1 X.env) (h2 X.env) h3, ev_m1 (f := fSplit) (fun dx dy d e => ?_) (fun F H a y dy d s r e Q q => ?_) so se⟩
  · cases dx <;> first | exact ⟨_, rfl⟩ | cases e
  · unfold fSplit at e
    split at e
    · rename_i a' b ea
      cases ea
      split at e
      · rename_i hh
        simp only [Bool.and_eq_true, Bool.not_eq_true', decide_eq_true_eq] at hh
        cases e
        cases r
        exact ⟨a, _, rfl, rfl, hh.1, by rw [sizeLine_eq]; exact hh.2, fun p hp => by
          have : (Txt.split a b).map V.str = (Txt.split a b).map V.str := rfl
          exact rv_lst s RpAll.strs q hp⟩
      · cases e
    · cases e
def fPart : PyData → PyData → Option PyData
  | .str a, .str b => if !(b.length == 0) && decide (a.length ≤ 16777216) then some (.tuple [.str (Txt.partition a b).1, .str (Txt.partition a b).2.1, .str (Txt.partition a b).2.2]) else none
  | _, _ => none
theorem pd_partition {o e : Expr} {ro re : E1} {apos pos : Pos} (ho : PEd C K o ro) (he : PEd C K e re) (h1 : ∀ env, starEach [e] env = [(false, eval e env)] := by intro _; rfl) (h2 : ∀ env, attributeBase o (Str.ofString "partition") env (eval o env) = eval o env := by intro _; rfl) (h3 : (apos.endLine == pos.line) = true := by rfl) :
    PEd C K (.Call (.Attribute o "partition" apos) [e] [] pos) (rE2 fPart ro re) := by
  obtain ⟨to, ho, so⟩ := ho.ex
  obtain ⟨te, he, se⟩ := he.ex
  refine ⟨_, fun X c => pe_partition (ho X c) (he X c) (h1 X.env) (h2 X.env) h3, ev_m1 (f := fPart) (fun dx dy d e => ?_) (fun F H a y dy d s r e Q q => ?_) so se⟩
  · cases dx <;> first | exact ⟨_, rfl⟩ | cases e
  · unfold fPart at e
    split at e
    · rename_i a' b ea
      cases ea
      split at e
      · rename_i hh
        simp only [Bool.and_eq_true, Bool.not_eq_true', decide_eq_true_eq] at hh
        cases e
        cases r
        exact ⟨a, _, rfl, rfl, hh.1, by rw [sizeLine_eq]; exact hh.2, fun p hp => rv_tup s (.cons (.str _) (.cons (.str _) (.cons (.str _) .nil))) q hp⟩
      · cases e
    · cases e
def strsOf : List PyData → Option (List Str)
  | [] => some []
  | .str x :: r => (strsOf r).map fun t => x :: t
  | _ :: _ => none
theorem strs_ok : ∀ {ds : List PyData} {ys : List Str}, strsOf ds = some ys → ds = ys.map .str
  | [], _, e => by cases e; rfl
  | d :: ds, ys, e => by
    cases d <;> first | (unfold strsOf at e; cases e; done) | skip
    rename_i x
    unfold strsOf at e
    cases e1 : strsOf ds with
    | none => rw [e1] at e; cases e
    | some zs =>
      rw [e1] at e
      cases e
      rw [strs_ok e1]
      rfl
def fJoin : PyData → PyData → Option PyData := fun x y => match x with
  | .str a => (seqOf y).bind fun ds => (strsOf ds).bind fun ys => if (ys.map fun x => x.length).sum + ys.length * a.length ≤ 16777216 then some (.str (Txt.join a ys)) else none
  | _ => none
theorem pd_join {o e : Expr} {ro re : E1} {apos pos : Pos} (ho : PEd C K o ro) (he : PEd C K e re) (Z : Fam C P w K mg base N sc k top) (h1 : ∀ env, starEach [e] env = [(false, eval e env)] := by intro _; rfl) (h2 : ∀ env, attributeBase o (Str.ofString "join") env (eval o env) = eval o env := by intro _; rfl) (h3 : (apos.endLine == pos.line) = true := by rfl) :
    PEd C K (.Call (.Attribute o "join" apos) [e] [] pos) (rE2 fJoin ro re) := by
  obtain ⟨to, ho, so⟩ := ho.ex
  obtain ⟨te, he, se⟩ := he.ex
  refine ⟨tM1 (fun x xs H Q => ∃ a p ys, x = V.str a ∧ xs = [V.ref p] ∧ (SqL K H p (List.map V.str ys) ∨ SqT K H p (List.map V.str ys)) ∧ (List.map (fun x => x.length) ys).sum + ys.length * a.length ≤ 16777216 ∧ Q (V.str (Txt.join a ys)) H) to te,
    fun X c => by have := pe_join (ho X c) (he X c) (h1 X.env) (h2 X.env) h3; rw [Z.K_ X c] at this; exact this, ev_m1 (f := fJoin) (fun dx dy d e => ?_) (fun F H a y dy d s r e Q q => ?_) so se⟩
  · cases dx <;> first | exact ⟨_, rfl⟩ | cases e
  · unfold fJoin at e
    have e' : ((seqOf dy).bind fun ds => (strsOf ds).bind fun ys => if (ys.map fun x => x.length).sum + ys.length * a.length ≤ 16777216 then some (PyData.str (Txt.join a ys)) else none) = some d := e
    cases e1 : seqOf dy with
    | none => rw [e1] at e'; cases e'
    | some ds =>
      rw [e1] at e'
      have e2 : ((strsOf ds).bind fun ys => if (ys.map fun x => x.length).sum + ys.length * a.length ≤ 16777216 then some (PyData.str (Txt.join a ys)) else none) = some d := e'
      cases e3 : strsOf ds with
      | none => rw [e3] at e2; cases e2
      | some ys =>
        rw [e3] at e2
        have e4 : (if (ys.map fun x => x.length).sum + ys.length * a.length ≤ 16777216 then some (PyData.str (Txt.join a ys)) else none) = some d := e2
        split at e4
        · rename_i hz
          cases e4
          obtain ⟨p, us, rfl, h1, h2⟩ := rp_seq r e1 s
          have := strs_ok e3
          subst this
          have := h2.ofStrs
          subst this
          exact ⟨a, p, ys, rfl, rfl, h1, hz, rv_here s (.str _) q⟩
        · cases e4

/-! ### f-strings -/
def fFmt : PyData → Option Str
  | .str y => if y.length ≤ 16777216 then some y else none
  | .int i => if i.natAbs.log2 < 1920 then some (iStr' i) else none
  | _ => none
abbrev F1 := Sl → Option Str
structure PFd (C : Cx → Prop) (K : PySem.W.Frag) (e : Expr) (r : F1) : Prop where
  ex : ∃ te, (∀ X, C X → PE X e te) ∧ ∀ F H σ ρ y, Rel K F H σ ρ → r ρ = some y → EvD K te σ F H (.str y)
def rFmt (a : E1) : F1 := fun ρ => (a ρ).bind fFmt
theorem pfd_fmt {e : Expr} {r : E1} {pos : Pos} (he : PEd C K e r) : PFd C K (.FormattedValue e (-1) none pos) (rFmt r) := by
  obtain ⟨te, he, se⟩ := he.ex
  refine ⟨tFmt te, fun X c => pe_fmt (he X c), fun F H σ ρ y R e Q q => ?_⟩
  unfold rFmt at e
  cases e1 : r ρ with
  | none => rw [e1] at e; cases e
  | some d =>
    rw [e1] at e
    have e2 : fFmt d = some y := e
    refine se F H σ ρ d R e1 _ fun v F1 H1 s1 g1 f1 r1 => ?_
    unfold fFmt at e2
    split at e2
    · split at e2
      · rename_i hl
        cases e2
        cases r1
        exact .inl ⟨_, rfl, by rw [sizeLine_eq]; exact hl, q _ F1 H1 s1 g1 f1 (.str _)⟩
      · cases e2
    · split at e2
      · rename_i hl
        cases e2
        cases r1
        exact .inr ⟨_, rfl, hl, q _ F1 H1 s1 g1 f1 (.str _)⟩
      · cases e2
    · cases e2
theorem pfd_str {x : Str} {j} {pos : Pos} : PFd C K (.Constant (.str x) j pos) (fun _ => some x) := ⟨tC (.str x), fun _ _ => pe_str, fun F H σ ρ y R e Q q => by
  cases e
  exact q _ F H (Same.refl H) (Gr.refl F H) R.ex (.str _)⟩
/-- the parts, what is there already: acc -/
inductive PJd (C : Cx → Prop) (K : PySem.W.Frag) : List Expr → List F1 → Prop where
  | nil : PJd C K [] []
  | cons {e : Expr} {r : F1} {es : List Expr} {rs : List F1} (h : PFd C K e r) (t : PJd C K es rs) : PJd C K (e :: es) (r :: rs)
def jsD : List F1 → Str → Sl → Option Str
  | [], acc, _ => some acc
  | r :: rs, acc, ρ => (r ρ).bind fun y => if (acc ++ y).length ≤ 16777216 then jsD rs (acc ++ y) ρ else none
theorem pjd_ok {es : List Expr} {rs : List F1} (h : PJd C K es rs) : ∃ ts, (∀ X, C X → PJ X es ts) ∧ ∀ F H σ ρ acc y, Rel K F H σ ρ → jsD rs acc ρ = some y → ∀ Q : Str → Hp → Prop, (∀ F' H', Same H H' → Gr F F' H → Same F' H' → Q y H') → tJs ts acc σ H Q := by
  induction h with
  | nil => exact ⟨[], fun _ _ => .nil, fun F H σ ρ acc y R e Q q => by cases e; exact q F H (Same.refl H) (Gr.refl F H) R.ex⟩
  | @cons e r es rs he t ih =>
    obtain ⟨te, he, se⟩ := he.ex
    obtain ⟨ts, ht, st⟩ := ih
    refine ⟨te :: ts, fun X c => .cons (he X c) (ht X c), fun F H σ ρ acc y R e Q q => ?_⟩
    unfold jsD at e
    cases e1 : r ρ with
    | none => rw [e1] at e; cases e
    | some z =>
      rw [e1] at e
      have e2 : (if (acc ++ z).length ≤ 16777216 then jsD rs (acc ++ z) ρ else none) = some y := e
      split at e2
      · rename_i hl
        refine se F H σ ρ z R e1 _ fun v F1 H1 s1 g1 f1 r1 => ⟨z, rp_str r1, by rw [sizeLine_eq]; exact hl, ?_⟩
        exact st F1 H1 σ ρ _ y (R.grow s1 g1 f1) e2 Q fun F2 H2 s2 g2 f2 => q F2 H2 (s1.trans s2) (g1.trans s1 g2) f2
      · cases e2
def rJs (rs : List F1) : E1 := fun ρ => (jsD rs Str.empty ρ).map .str
theorem pd_joined {v1 v2 : Expr} {rest : List Expr} {rs : List F1} {pos : Pos} (h : PJd C K (v1 :: v2 :: rest) rs) : PEd C K (.JoinedStr (v1 :: v2 :: rest) pos) (rJs rs) := by
  obtain ⟨ts, ht, st⟩ := pjd_ok h
  refine ⟨_, fun X c => pe_joined (ht X c), fun F H σ ρ d R e Q q => ?_⟩
  unfold rJs at e
  cases e1 : jsD rs Str.empty ρ with
  | none => rw [e1] at e; cases e
  | some y =>
    rw [e1] at e
    cases e
    exact st F H σ ρ _ y R e1 _ fun F1 H1 s1 g1 f1 => q _ F1 H1 s1 g1 f1 (.str y)

/-! ### slices -/
abbrev I1 := Sl → Option (Option Int)
structure POd (C : Cx → Prop) (K : PySem.W.Frag) (e : Option Expr) (r : I1) : Prop where
  ex : ∃ t, (∀ X, C X → PO X e t) ∧ ∀ F H σ ρ o, Rel K F H σ ρ → r ρ = some o → ∀ Q : Option Int → Hp → Prop, (∀ F' H', Same H H' → Gr F F' H → Same F' H' → Q o H') → t σ H Q
def oNone : I1 := fun _ => some none
def oSome (a : E1) : I1 := fun ρ => match a ρ with
  | some (.int i) => some (some i)
  | _ => none
theorem pod_none : POd C K none oNone := ⟨tNoPart, fun _ _ => po_none, fun F H σ ρ o R e Q q => by cases e; exact q F H (Same.refl H) (Gr.refl F H) R.ex⟩
theorem pod_some {e : Expr} {a : E1} (h : PEd C K e a) : POd C K (some e) (oSome a) := by
  obtain ⟨t, h, s⟩ := h.ex
  refine ⟨tPart t, fun X c => po_some (h X c), fun F H σ ρ o R e Q q => ?_⟩
  unfold oSome at e
  split at e
  · rename_i i e1
    cases e
    exact s F H σ ρ _ R e1 _ fun v F1 H1 s1 g1 f1 r1 => ⟨i, rp_int r1, q F1 H1 s1 g1 f1⟩
  · cases e
def cutD (xs : List PyData) (lo hi : Option Int) : List PyData := List.take (HT.sIx xs.length xs.length hi - HT.sIx xs.length 0 lo) (List.drop (HT.sIx xs.length 0 lo) xs)
def fCut (d : PyData) (lo hi : Option Int) : Option PyData := match d with
  | .list ds => some (.list (cutD ds lo hi))
  | .tuple ds => some (.tuple (cutD ds lo hi))
  | .str z => if z.length ≤ 16777216 then some (.str (cutS z lo hi)) else none
  | _ => none
theorem cutV_rp {F : Hp} {vs : List V} {ds : List PyData} {lo hi : Option Int} (h : RpAll K F vs ds) : RpAll K F (cutV vs lo hi) (cutD ds lo hi) := by
  unfold cutV cutD
  rw [h.length]
  exact (h.drop _).take _
theorem cutD_all {ds : List PyData} {lo hi : Option Int} (h : HT.sIx ds.length 0 lo = 0 ∧ HT.sIx ds.length ds.length hi = ds.length) : cutD ds lo hi = ds := by
  unfold cutD
  rw [h.1, h.2]
  simp
def rSl (K : PySem.W.Frag) : V → Option Int → Option Int → Hp → VK → Prop := fun x lo hi H Q => rSlL K x lo hi H Q ∨ (rSlA K x lo hi H Q ∨ rSlS x lo hi H Q)
theorem SlR.or {X : Cx} {r r' : V → Option Int → Option Int → Hp → VK → Prop} (h : SlR X r) (h' : SlR X r') : SlR X (fun x lo hi H Q => r x lo hi H Q ∨ r' x lo hi H Q) := fun pins s σ H x v vl vu lo hi sl Q I r1 i1 i2 i3 h0 => by
  rcases h0 with z | z
  · exact h pins s σ H x v vl vu lo hi sl Q I r1 i1 i2 i3 z
  · exact h' pins s σ H x v vl vu lo hi sl Q I r1 i1 i2 i3 z
theorem sl_A {X : Cx} : SlR X (rSl X.K) := SlR.or sl_list (SlR.or sl_tupA sl_str)
def rCut (a : E1) (l u : I1) : E1 := fun ρ => (a ρ).bind fun d => (l ρ).bind fun lo => (u ρ).bind fun hi => fCut d lo hi
theorem pd_slice (Z : Fam C P w K mg base N sc k top) {e : Expr} {lo hi : Option Expr} {a : E1} {l u : I1} {pos p2 : Pos} (he : PEd C K e a) (hl : POd C K lo l) (hu : POd C K hi u) : PEd C K (.Subscript e (.Slice lo hi none p2) pos) (rCut a l u) := by
  obtain ⟨te, he, se⟩ := he.ex
  obtain ⟨tl, hl, sl⟩ := hl.ex
  obtain ⟨tu, hu, su⟩ := hu.ex
  refine ⟨tSl (rSl K) te tl tu, fun X c => by have := pe_slice (p2 := p2) (pos := pos) (sl_A (X := X)) (he X c) (hl X c) (hu X c); rw [Z.K_ X c] at this; exact this, fun F H σ ρ d R e Q q => ?_⟩
  unfold rCut at e
  cases e1 : a ρ with
  | none => rw [e1] at e; cases e
  | some x =>
    rw [e1] at e
    have e' : ((l ρ).bind fun lo => (u ρ).bind fun hi => fCut x lo hi) = some d := e
    cases e2 : l ρ with
    | none => rw [e2] at e'; cases e'
    | some lo =>
      rw [e2] at e'
      have e'' : ((u ρ).bind fun hi => fCut x lo hi) = some d := e'
      cases e3 : u ρ with
      | none => rw [e3] at e''; cases e''
      | some hi =>
        rw [e3] at e''
        have e4 : fCut x lo hi = some d := e''
        refine se F H σ ρ x R e1 _ fun v F1 H1 s1 g1 f1 r1 => sl F1 H1 σ ρ lo (R.grow s1 g1 f1) e2 _ fun F2 H2 s2 g2 f2 => su F2 H2 σ ρ hi ((R.grow s1 g1 f1).grow s2 g2 f2) e3 _ fun F3 H3 s3 g3 f3 => ?_
        have q' : ∀ v F' H', Same H3 H' → Gr F3 F' H3 → Same F' H' → Rp K F' v d → Q v H' := fun v F' H' s g f r => q v F' H' (((s1.trans s2).trans s3).trans s) (((g1.trans s1 g2).trans (s1.trans s2) g3).trans ((s1.trans s2).trans s3) g) f r
        have r3 := Rp.mono (g2.1.trans g3.1) _ _ r1
        unfold fCut at e4
        split at e4
        · cases e4
          obtain ⟨p, vs, rfl, h1, h2⟩ := rp_lst r3
          exact .inl ⟨p, vs, rfl, .inl (.inl (f3 _ _ h1)), fun p hp => rv_lst f3 (cutV_rp h2) q' hp⟩
        · cases e4
          obtain ⟨p, vs, rfl, h1, h2⟩ := rp_tup r3
          refine .inr (.inl ⟨p, vs, rfl, sqT_mono f3 h1, fun hw => ?_, fun _ p hp => rv_tup f3 (cutV_rp h2) q' hp⟩)
          rw [h2.length] at hw
          rw [cutD_all hw] at q'
          exact rv_here f3 r3 q'
        · split at e4
          · rename_i hz
            cases e4
            cases r3
            exact .inr (.inr ⟨_, rfl, by rw [sizeLine_eq]; exact hz, rv_here f3 (.str _) q'⟩)
          · cases e4
        · cases e4
/-- xs[::-1] -/
def fRev : PyData → Option PyData
  | .list ds => some (.list ds.reverse)
  | _ => none
theorem pd_rev (Z : Fam C P w K mg base N sc k top) {e : Expr} {a : E1} {kk : Nat} {p1 p2 p3 pos : Pos} (he : PEd C K e a) : PEd C K (.Subscript e (.Slice none none (some (.UnaryOp .USub (.Constant (.int 1) kk p1) p2)) p3) pos) (rE1 fRev a) := by
  obtain ⟨te, he, se⟩ := he.ex
  refine ⟨tRevL K te, fun X c => by have := pe_revL (k := kk) (p1 := p1) (p2 := p2) (p3 := p3) (pos := pos) (he X c); rw [Z.K_ X c] at this; exact this, fun F H σ ρ d R e Q q => ?_⟩
  obtain ⟨x, e1, e2⟩ := bind1 e
  refine se F H σ ρ x R e1 _ fun v F1 H1 s1 g1 f1 r1 => ?_
  unfold fRev at e2
  split at e2
  · cases e2
    obtain ⟨p, vs, rfl, h1, h2⟩ := rp_lst r1
    exact ⟨p, vs, rfl, .inl (.inl (f1 _ _ h1)), fun p hp => rv_lst f1 h2.reverse (fun v F' H' s g f r => q v F' H' (s1.trans s) (g1.trans s1 g) f r) hp⟩
  · cases e2
end
end Pd

set_option maxHeartbeats 2000000
/-! Pd8: lists of a body's own, dicts by texts, tables. -/
namespace Pd
open PySem PySem.Spec PyProof.Rows L2

section
variable {C : Cx → Prop} {P : Program} {w : World} {K : PySem.W.Frag} {mg : Str → Option Value} {base : Heap} {N : List Str} {sc : Scope} {k : Nat} {top : Bool}

/-! ### lists of the body's own -/
def owAt (i : Nat) (ρ : Sl) : Option (List PyData) := match ρ[i]? with
  | some (some (.ow ds)) => some ds
  | _ => none
theorem owAt_ok {i : Nat} {ρ : Sl} {ds : List PyData} (h : owAt i ρ = some ds) : ρ[i]? = some (some (.ow ds)) := by
  unfold owAt at h
  split at h
  · rename_i e; cases h; exact e
  · cases h
theorem Rel.own {F H : Hp} {σ : L2.St} {ρ : Sl} (R : Rel K F H σ ρ) {i : Nat} {ds : List PyData} (h : owAt i ρ = some ds) : ∃ a vs, σ[i]? = some (some (.ref a)) ∧ H a = some (.lst vs) ∧ F a = none ∧ RpAll K F vs ds := by
  obtain ⟨v, hv, a, vs, e, h1, h2, h3⟩ := R.cell i _ (owAt_ok h)
  subst e
  exact ⟨a, vs, hv, h1, h2, h3⟩
/-- x = [e, ..] -/
def sOw (i : Nat) (a : A1) : B1 := fun ρ => (a ρ).bind fun ds => if ds.length ≤ 16777216 then some (.nx (ρ.set i (some (.ow ds)))) else none
theorem ps1_ow (Z : Fam C P w K mg base N sc k top) (i : Nat) {x : Str} {es : List Expr} {a : A1} {p pos pos' : Pos} (h : okS N sc top i x = true) (ha : PAd C K es a) (hs : ∀ env, swapsWith (.List es p) (some (.Name x pos')) pos.line env = pure false := by intro _; rfl) :
    PSd C K (.Assign [.Name x pos'] (.List es p) pos) (sOw i a) := by
  obtain ⟨ta, ha, sa⟩ := ha.ex
  refine ⟨tAsg (tLst ta) (gName i), fun X c => let z := okS_ok Z h c; ps_set (Z.ndX c) z.1 z.2.1 (pe_lst (ha X c)) (hs X.env) z.2.2, fun F0 B F H σ ρ fl D R e q => ?_⟩
  unfold sOw at e
  cases e1 : a ρ with
  | none => rw [e1] at e; cases e
  | some ds =>
    rw [e1] at e
    have e2 : (if ds.length ≤ 16777216 then some (Fl.nx (ρ.set i (some (.ow ds)))) else none) = some fl := e
    split at e2
    · rename_i hl
      cases e2
      refine sa F H σ ρ ds R.r e1 _ fun vs F1 H1 s1 g1 f1 r1 => ⟨by rw [r1.length, sizeLine_eq]; exact hl, fun p hp => ?_⟩
      exact q _ F1 _ ((R.grow s1 g1 f1).setOw hp r1)
    · cases e2
/-- x, y = ([e, ..], [f, ..]) -/
def sOw2 (i j : Nat) (a b : A1) : B1 := fun ρ => (a ρ).bind fun ds => (b ρ).bind fun es => if ds.length ≤ 16777216 ∧ es.length ≤ 16777216 then some (.nx ((ρ.set i (some (.ow ds))).set j (some (.ow es)))) else none
theorem ps1_ow2 (Z : Fam C P w K mg base N sc k top) (i j : Nat) {x y : Str} {es es' : List Expr} {a b : A1} {p1 p2 px py pt pos : Pos} {kt k2 pt2} (hi : N[i]? = some x) (hj : N[j]? = some y) (hij : i ≠ j) (hx : sc.names.lookup x = some .local) (hy : sc.names.lookup y = some .local) (ha : PAd C K es a) (hb : PAd C K es' b)
    (hw : ∀ env, env.scope = sc → swappedStores [.Tuple [.Name x px, .Name y py] kt pt] (.Tuple [.List es p1, .List es' p2] k2 pt2) env = pure (some [x, y]))
    (hs : ∀ env, swapsWithSole [.Tuple [.Name x px, .Name y py] kt pt] (.Tuple [.List es p1, .List es' p2] k2 pt2) pos.line env = pure false := by intro _; rfl) :
    PSd C K (.Assign [.Tuple [.Name x px, .Name y py] kt pt] (.Tuple [.List es p1, .List es' p2] k2 pt2) pos) (sOw2 i j a b) := by
  obtain ⟨ta, ha, sa⟩ := ha.ex
  obtain ⟨tb, hb, sb⟩ := hb.ex
  refine ⟨tPar i j (tCons (tLst ta) (tCons (tLst tb) tNil)), fun X c => ps_par (Z.calm X c) (Z.ndX c) (by rw [Z.N_ X c]; exact hi) (by rw [Z.N_ X c]; exact hj) hij (by rw [Z.sc_ X c]; exact hx) (by rw [Z.sc_ X c]; exact hy) (pa_cons (pe_lst (ha X c)) (pa_cons (pe_lst (hb X c)) pa_nil)) (hw X.env (Z.sc_ X c)) (hs X.env), fun F0 B F H σ ρ fl D R e q => ?_⟩
  unfold sOw2 at e
  cases e1 : a ρ with
  | none => rw [e1] at e; cases e
  | some ds =>
    rw [e1] at e
    have e' : ((b ρ).bind fun es => if ds.length ≤ 16777216 ∧ es.length ≤ 16777216 then some (Fl.nx ((ρ.set i (some (.ow ds))).set j (some (.ow es)))) else none) = some fl := e
    cases e2 : b ρ with
    | none => rw [e2] at e'; cases e'
    | some es =>
      rw [e2] at e'
      have e3 : (if ds.length ≤ 16777216 ∧ es.length ≤ 16777216 then some (Fl.nx ((ρ.set i (some (.ow ds))).set j (some (.ow es)))) else none) = some fl := e'
      split at e3
      · rename_i hl
        cases e3
        refine sa F H σ ρ ds R.r e1 _ fun vs F1 H1 s1 g1 f1 r1 => ⟨by rw [r1.length, sizeLine_eq]; exact hl.1, fun p hp => ?_⟩
        have R1 := R.grow s1 g1 f1
        -- while the second list is made, the first stands new
        have R1' : RelS K F0 B F1 (upd H1 p (.lst vs)) σ ρ := R1.grow (same_upd hp) (Gr.refl F1 H1) (f1.trans (same_upd hp))
        refine sb F1 (upd H1 p (.lst vs)) σ ρ es R1'.r e2 _ fun us F2 H2 s2 g2 f2 r2 => ⟨by rw [r2.length, sizeLine_eq]; exact hl.2, fun p' hp' => ⟨_, _, rfl, ?_⟩⟩
        have hpF2 : F2 p = none := by
          cases z : F2 p with
          | none => rfl
          | some o =>
            rcases g2.2 p o z with z' | z'
            · rw [f1.free hp] at z'; cases z'
            · rw [upd_same] at z'; cases z'
        have hpH2 : H2 p = some (.lst vs) := s2 _ _ upd_same
        -- as if the first were laid now
        have R2 : RelS K F0 B F2 H2 σ ρ := R1'.grow s2 g2 f2
        have nold : ∀ (jj : Nat) (es' : List PyData), ρ[jj]? = some (some (.ow es')) → σ[jj]? ≠ some (some (.ref p)) := fun jj es' z1 z2 => by
          obtain ⟨v, hv, a', us', ee, h1, h2, h3⟩ := R1.r.cell jj _ z1
          rw [hv] at z2
          cases z2
          cases ee
          rw [hp] at h1
          cases h1
        have R3 : RelS K F0 B F2 H2 (σ.set i (some (.ref p))) (ρ.set i (some (.ow ds))) := by
          refine ⟨⟨by simp [R2.r.len], f2, fun jj c z => ?_, fun jj kk d1 d2 a' ne z1 z2 z3 z4 => ?_⟩, R2.sb, R2.gr, fun jj d1 a' z1 z2 => ?_⟩
          · rcases set_none_of z with ⟨q1, z'⟩ | ⟨ne, z'⟩
            · subst q1
              subst z'
              have hli : i < σ.length := by
                rw [R2.r.len]
                have := (List.getElem?_eq_some_iff.mp z).1
                simpa using this
              exact ⟨.ref p, List.getElem?_set_self hli, p, vs, rfl, hpH2, hpF2, RpAll.mono g2.1 _ _ r1⟩
            · obtain ⟨v, hv, hc⟩ := R2.r.cell jj c z'
              exact ⟨v, by rw [List.getElem?_set_ne ne]; exact hv, hc⟩
          · rcases set_none_of z1 with ⟨q1, y1⟩ | ⟨n1, y1⟩
            · rcases set_none_of z2 with ⟨q2, y2⟩ | ⟨n2, y2⟩
              · exact ne (q1.symm.trans q2)
              · rcases set_none_of z3 with ⟨_, y⟩ | ⟨ny, _⟩
                · cases y
                  rw [List.getElem?_set_ne n2] at z4
                  exact nold kk d2 y2 z4
                · exact ny q1
            · rcases set_none_of z2 with ⟨q2, y2⟩ | ⟨n2, y2⟩
              · rcases set_none_of z4 with ⟨_, y⟩ | ⟨ny, _⟩
                · cases y
                  rw [List.getElem?_set_ne n1] at z3
                  exact nold jj d1 y1 z3
                · exact ny q2
              · rw [List.getElem?_set_ne n1] at z3
                rw [List.getElem?_set_ne n2] at z4
                exact R2.r.inj jj kk d1 d2 a' ne y1 y2 z3 z4
          · rcases set_none_of z1 with ⟨q1, y1⟩ | ⟨n1, y1⟩
            · rcases set_none_of z2 with ⟨_, y⟩ | ⟨ny, _⟩
              · cases y
                exact R1.sb.free hp
              · exact absurd q1 ny
            · rw [List.getElem?_set_ne n1] at z2
              exact R2.own jj d1 a' y1 z2
        exact q _ F2 _ (R3.setOw hp' r2)
      · cases e3
theorem visL_of {i : Nat} {x : Str} (h : okS N sc top i x = true) : N[i]? = some x ∧ Vis sc x := by
  unfold okS at h
  simp only [Bool.and_eq_true, decide_eq_true_eq] at h
  refine ⟨h.1, ?_⟩
  have h2 := h.2
  unfold Vis
  split at h2
  · rename_i e; rw [e]; simp
  · rename_i e; rw [e]; simp
  · cases h2
theorem pe_ow (Z : Fam C P w K mg base N sc k top) {i : Nat} {x : Str} {pos : Pos} (h : okV N sc i x = true) {X : Cx} (c : C X) : PE X (.Name x pos) (tVar i) := by
  unfold okV at h
  simp only [Bool.and_eq_true, decide_eq_true_eq] at h
  exact pe_var (by rw [Z.N_ X c]; exact h.1) (by rw [Z.sc_ X c]; exact visB_ok h.2.1) (plainN_d h.2.2) (plainN_c h.2.2)
/-- x.append(e) -/
def sApp (i : Nat) (r : E1) : B1 := fun ρ => (r ρ).bind fun d => (owAt i ρ).bind fun ds => if ds.length < 16777216 then some (.nx (ρ.set i (some (.ow (ds ++ [d]))))) else none
theorem ps1_append (Z : Fam C P w K mg base N sc k top) (i : Nat) {x : Str} {e : Expr} {r : E1} {px apos cpos pos : Pos} (h : okV N sc i x = true) (he : PEd C K e r)
    (h1 : ∀ env, attributeBase (.Name x px) "append" env (eval (.Name x px) env) = eval (.Name x px) env := by intro _; rfl)
    (h2 : ∀ env, (((((backTo cpos (starEach (e :: []) env)).all fun x => !x.fst) && (backToKw cpos (keywordEach [] env)).all fun x => x.fst.isSome) && decide (((e :: []).length + ([] : List Keyword).length + if ([] : List Keyword).isEmpty = true then 0 else 1) < 30)) = true) := by intro _; rfl)
    (h3 : (apos.endLine == cpos.line) = true := by rfl) (h4 : ∀ env, starEach (e :: []) env = (false, eval e env) :: starEach [] env := by intro _; rfl)
    (hs : ∀ env, swapsWith (.Call (.Attribute (.Name x px) "append" apos) [e] [] cpos) none pos.line env = pure false := by intro _; rfl) :
    PSd C K (.Expr (.Call (.Attribute (.Name x px) "append" apos) [e] [] cpos) pos) (sApp i r) := by
  obtain ⟨te, he, se⟩ := he.ex
  refine ⟨tDrop (tBM K "list" rAppend (tVar i) (tCons te tNil)), fun X c => ?_, fun F0 B F H σ ρ fl D R e q => ?_⟩
  · have := pe_bm (apos := apos) (cpos := cpos) PySem.F.plainAttrs_list PySem.F.slot_list_append PySem.F.type_list_append (mt_append (X := X)) (pe_ow (pos := px) Z h c) (pa_cons (he X c) pa_nil (h4 X.env)) (h1 X.env) (h2 X.env) h3 (h4 X.env) rfl
    rw [Z.K_ X c] at this
    exact ps_expr this (hs X.env)
  · unfold sApp at e
    cases e1 : r ρ with
    | none => rw [e1] at e; cases e
    | some d =>
      rw [e1] at e
      have e' : ((owAt i ρ).bind fun ds => if ds.length < 16777216 then some (Fl.nx (ρ.set i (some (.ow (ds ++ [d]))))) else none) = some fl := e
      cases e2 : owAt i ρ with
      | none => rw [e2] at e'; cases e'
      | some ds =>
        rw [e2] at e'
        have e3 : (if ds.length < 16777216 then some (Fl.nx (ρ.set i (some (.ow (ds ++ [d]))))) else none) = some fl := e'
        split at e3
        · rename_i hl
          cases e3
          obtain ⟨a, vs, h1, h2, h3, h4⟩ := R.r.own e2
          refine ⟨.ref a, h1, .inl ⟨rfl, vs, .inl (.inl h2)⟩, se F H σ ρ d R.r e1 _ fun v F1 H1 s1 g1 f1 r1 => ?_⟩
          have R1 := R.grow s1 g1 f1
          exact ⟨a, vs, v, rfl, rfl, s1 _ _ h2, by rw [h4.length, sizeLine_eq]; exact hl, q _ F1 _ (R1.mutOw (owAt_ok e2) h1 ((RpAll.mono g1.1 _ _ h4).append (.cons r1 .nil)))⟩
        · cases e3
/-- x.extend(e), e a list -/
def extF (i : Nat) (ρ : Sl) (ds : List PyData) : PyData → Option Fl
  | .list es => if ds.length + es.length ≤ 16777216 then some (.nx (ρ.set i (some (.ow (ds ++ es))))) else none
  | _ => none
def sExt (i : Nat) (r : E1) : B1 := fun ρ => (r ρ).bind fun d => (owAt i ρ).bind fun ds => extF i ρ ds d
theorem ps1_extend (Z : Fam C P w K mg base N sc k top) (i : Nat) {x : Str} {e : Expr} {r : E1} {px apos cpos pos : Pos} (h : okV N sc i x = true) (he : PEd C K e r)
    (h1 : ∀ env, attributeBase (.Name x px) "extend" env (eval (.Name x px) env) = eval (.Name x px) env := by intro _; rfl)
    (h2 : ∀ env, (((((backTo cpos (starEach (e :: []) env)).all fun x => !x.fst) && (backToKw cpos (keywordEach [] env)).all fun x => x.fst.isSome) && decide (((e :: []).length + ([] : List Keyword).length + if ([] : List Keyword).isEmpty = true then 0 else 1) < 30)) = true) := by intro _; rfl)
    (h3 : (apos.endLine == cpos.line) = true := by rfl) (h4 : ∀ env, starEach (e :: []) env = (false, eval e env) :: starEach [] env := by intro _; rfl)
    (hs : ∀ env, swapsWith (.Call (.Attribute (.Name x px) "extend" apos) [e] [] cpos) none pos.line env = pure false := by intro _; rfl) :
    PSd C K (.Expr (.Call (.Attribute (.Name x px) "extend" apos) [e] [] cpos) pos) (sExt i r) := by
  obtain ⟨te, he, se⟩ := he.ex
  refine ⟨tDrop (tBM K "list" rExtend (tVar i) (tCons te tNil)), fun X c => ?_, fun F0 B F H σ ρ fl D R e q => ?_⟩
  · have := pe_bm (apos := apos) (cpos := cpos) PySem.F.plainAttrs_list PySem.F.slot_list_extend PySem.F.type_list_extend (mt_extend (X := X)) (pe_ow (pos := px) Z h c) (pa_cons (he X c) pa_nil (h4 X.env)) (h1 X.env) (h2 X.env) h3 (h4 X.env) rfl
    rw [Z.K_ X c] at this
    exact ps_expr this (hs X.env)
  · unfold sExt at e
    cases e1 : r ρ with
    | none => rw [e1] at e; cases e
    | some d =>
      rw [e1] at e
      have e' : ((owAt i ρ).bind fun ds => extF i ρ ds d) = some fl := e
      cases e2 : owAt i ρ with
      | none => rw [e2] at e'; cases e'
      | some ds =>
        rw [e2] at e'
        have e3 : extF i ρ ds d = some fl := e'
        unfold extF at e3
        split at e3
        · rename_i es e1
          split at e3
          · rename_i hl
            cases e3
            obtain ⟨a, vs, h1, h2, h3, h4⟩ := R.r.own e2
            refine ⟨.ref a, h1, .inl ⟨rfl, vs, .inl (.inl h2)⟩, se F H σ ρ _ R.r e1 _ fun v F1 H1 s1 g1 f1 r1 => ?_⟩
            have R1 := R.grow s1 g1 f1
            obtain ⟨b, us, rfl, h5, h6⟩ := rp_lst r1
            exact ⟨a, b, vs, us, rfl, rfl, s1 _ _ h2, f1 _ _ h5, by rw [h4.length, h6.length, sizeLine_eq]; exact hl, q _ F1 _ (R1.mutOw (owAt_ok e2) h1 ((RpAll.mono g1.1 _ _ h4).append h6))⟩
          · cases e3
        · cases e3
theorem RpAll.dropLast {F : Hp} : ∀ {vs : List V} {ds : List PyData}, RpAll K F vs ds → RpAll K F vs.dropLast ds.dropLast
  | _, _, .nil => .nil
  | _, _, .cons _ .nil => .nil
  | _, _, .cons r (.cons r2 t) => .cons r (RpAll.dropLast (.cons r2 t))
/-- y = x.pop() -/
def sPop (i j : Nat) : B1 := fun ρ => (owAt i ρ).bind fun ds => (ds[ds.length - 1]?).map fun d => .nx ((ρ.set i (some (.ow ds.dropLast))).set j (some (.vl d)))
theorem ps1_pop (Z : Fam C P w K mg base N sc k top) (i j : Nat) {x y : Str} {px py apos cpos pos : Pos} (h : okV N sc i x = true) (hj : okS N sc top j y = true)
    (h1 : ∀ env, attributeBase (.Name x px) "pop" env (eval (.Name x px) env) = eval (.Name x px) env := by intro _; rfl)
    (h3 : (apos.endLine == cpos.line) = true := by rfl)
    (hs : ∀ env, swapsWith (.Call (.Attribute (.Name x px) "pop" apos) [] [] cpos) (some (.Name y py)) pos.line env = pure false := by intro _; rfl) :
    PSd C K (.Assign [.Name y py] (.Call (.Attribute (.Name x px) "pop" apos) [] [] cpos) pos) (sPop i j) := by
  refine ⟨tAsg (tBM0 K "list" rPop (tVar i)) (gName j), fun X c => ?_, fun F0 B F H σ ρ fl D R e q => ?_⟩
  · have := pe_bm0 (apos := apos) (cpos := cpos) PySem.F.plainAttrs_list PySem.F.slot_list_pop PySem.F.type_list_pop (mt_pop (X := X)) (pe_ow (pos := px) Z h c) (h1 X.env) h3
    rw [Z.K_ X c] at this
    have z := okS_ok Z hj c
    exact ps_set (Z.ndX c) z.1 z.2.1 this (hs X.env) z.2.2
  · unfold sPop at e
    cases e2 : owAt i ρ with
    | none => rw [e2] at e; cases e
    | some ds =>
      rw [e2] at e
      have e' : (ds[ds.length - 1]?).map (fun d => Fl.nx ((ρ.set i (some (.ow ds.dropLast))).set j (some (.vl d)))) = some fl := e
      cases e3 : ds[ds.length - 1]? with
      | none => rw [e3] at e'; cases e'
      | some d =>
        rw [e3] at e'
        cases e'
        obtain ⟨a, vs, h1, h2, h3, h4⟩ := R.r.own e2
        obtain ⟨v, hv, rv⟩ := h4.get e3
        exact ⟨.ref a, h1, .inl ⟨rfl, vs, .inl (.inl h2)⟩, a, vs, v, rfl, rfl, h2, by rw [h4.length]; exact hv, q _ F _ ((R.mutOw (owAt_ok e2) h1 (RpAll.dropLast h4)).set rv)⟩
/-- tuple(x) -/
def rTupOw (i : Nat) : E1 := fun ρ => (owAt i ρ).map .tuple
theorem pd_tupOw (Z : Fam C P w K mg base N sc k top) (i : Nat) {x : Str} {px p pos : Pos} (hm : mg "tuple" = none) (h : okV N sc i x = true) (hg : okG sc "tuple" = true) :
    PEd C K (.Call (.Name "tuple" p) [.Name x px] [] pos) (rTupOw i) := by
  unfold okG at hg
  simp only [Bool.and_eq_true] at hg
  refine ⟨tCB (fun xs H Q => ∃ p ys, xs = [V.ref p] ∧ ((SqL K H p ys ∧ ∀ (l : Addr), H l = none → Q (V.ref l) (upd H l (HO.tup ys))) ∨ SqT K H p ys ∧ Q (V.ref p) H)) (tCons (tVar i) tNil), fun X c => ?_, fun F H σ ρ d R e Q q => ?_⟩
  · have := call_tuple_of (X := X)
    rw [Z.K_ X c] at this
    exact pe_callTy this (Z.gl hg.1 c) (by rw [Z.mg_ X c]; exact hm) (by decide +kernel) (pa_cons (pe_ow (pos := px) Z h c) pa_nil rfl) (plainN_n hg.2) (plainN_d hg.2) rfl rfl
  · unfold rTupOw at e
    cases e2 : owAt i ρ with
    | none => rw [e2] at e; cases e
    | some ds =>
      rw [e2] at e
      cases e
      obtain ⟨a, vs, h1, h2, h3, h4⟩ := R.own e2
      exact ⟨.ref a, h1, a, vs, rfl, .inl ⟨.inl (.inl h2), fun l hl => rv_tup R.ex h4 q hl⟩⟩
/-- x != [] -/
def tNeNil (i : Nat) : T1 := fun ρ => (owAt i ρ).bind fun ds => if SeqAt.shaped (.list ds) then some (!ds.isEmpty) else none
theorem dp_own {F H : Hp} {a : Addr} {vs : List V} {ds : List PyData} (s : Same F H) (h : H a = some (.lst vs)) (r : RpAll K F vs ds) : Dp K H (.ref a) (.list ds) := .lst (.inl (.inl h)) (RpAll.dp s _ _ r)
theorem ptd_neNil (Z : Fam C P w K mg base N sc k top) (i : Nat) {x : Str} {px p pos : Pos} (h : okV N sc i x = true) (hm : behindInMarks .NotEq (.List [] p) = false := by rfl) :
    PTd C K (.Compare (.Name x px) [.NotEq] [.List [] p] pos) (tNeNil i) := by
  refine ⟨tTest (tOp (rNeD K) (tVar i) (tLst tNil)), fun X c => ?_, fun F H σ ρ b R e Q q => ?_⟩
  · have := op_neD (X := X) (by have := Z.units c; omega)
    rw [Z.K_ X c] at this
    exact pt_cmpR this (pe_ow (pos := px) Z h c) (pe_lst pa_nil) hm
  · unfold tNeNil at e
    cases e2 : owAt i ρ with
    | none => rw [e2] at e; cases e
    | some ds =>
      rw [e2] at e
      have e3 : (if SeqAt.shaped (.list ds) then some (!ds.isEmpty) else none) = some b := e
      split at e3
      · rename_i hsh
        cases e3
        obtain ⟨a, vs, h1, h2, h3, h4⟩ := R.own e2
        refine ⟨.ref a, h1, by show 0 ≤ sizeLine; decide, fun p' hp' => ?_⟩
        have s1 : Same H (upd H p' (.lst [])) := same_upd hp'
        refine ⟨.list ds, .list [], dp_own (R.ex.trans s1) (s1 _ _ h2) h4, .lst (.inl (.inl upd_same)) .nil, hsh, by decide +kernel, _, rfl, ?_⟩
        have hb : (!(PyData.list ds).eqv (.list [])) = !ds.isEmpty := by cases ds <;> rfl
        rw [hb]
        exact q _ s1
      · cases e3
/-- return x -/
def sRetOw (i : Nat) : B1 := fun ρ => (owAt i ρ).map fun ds => .rt (.list ds)
theorem ps1_retOw (Z : Fam C P w K mg base N sc k top) (i : Nat) {x : Str} {px pos : Pos} (h : okV N sc i x = true) : PSd C K (.Return (some (.Name x px)) pos) (sRetOw i) := by
  refine ⟨tRet (tVar i), fun X c => ps_ret (pe_ow (pos := px) Z h c), fun F0 B F H σ ρ fl D R e q => ?_⟩
  unfold sRetOw at e
  cases e2 : owAt i ρ with
  | none => rw [e2] at e; cases e
  | some ds =>
    rw [e2] at e
    cases e
    obtain ⟨a, vs, h1, h2, h3, h4⟩ := R.r.own e2
    have hB := R.own i ds a (owAt_ok e2) h1
    have sF : Same F (upd F a (.lst vs)) := same_upd h3
    refine ⟨.ref a, h1, q (.ref a) (upd F a (.lst vs)) H R.sb ⟨R.gr.1.trans sF, fun b o z => ?_⟩ (fun b o z => ?_) (.lst upd_same (RpAll.mono sF _ _ h4))⟩
    · by_cases qq : b = a
      · subst qq; exact .inr hB
      · rw [upd_ne qq] at z
        exact R.gr.2 b o z
    · by_cases qq : b = a
      · subst qq; rw [upd_same] at z; cases z; exact h2
      · rw [upd_ne qq] at z
        exact R.r.ex b o z
end
end Pd

set_option maxHeartbeats 2000000
/-! Pd9: dicts by texts, tables, in over a tuple of data. -/
namespace Pd
open PySem PySem.Spec PyProof.Rows L2

section
variable {C : Cx → Prop} {P : Program} {w : World} {K : PySem.W.Frag} {mg : Str → Option Value} {base : Heap} {N : List Str} {sc : Scope} {k : Nat} {top : Bool}
/-! ### a written dict, keys written texts -/
abbrev D1 := Sl → Option (List (Str × PyData))
def dNil : D1 := fun _ => some []
def dCons (x : Str) (a : E1) (t : D1) : D1 := fun ρ => (a ρ).bind fun d => (t ρ).map fun r => (x, d) :: r
structure PDd (C : Cx → Prop) (K : PySem.W.Frag) (pos : Pos) (keys : List (Option Expr)) (values : List Expr) (r : D1) : Prop where
  ex : ∃ trs, (∀ X, C X → PPs X pos keys values trs) ∧ ∀ F H σ ρ m, Rel K F H σ ρ → r ρ = some m → ∀ Q : List (V × V) → Hp → Prop, (∀ l F' H', Same H H' → Gr F F' H → Same F' H' → DkAll K F' l m → Q (l.map fun kv => (kV kv.1, kv.2)) H') → tPairs trs σ H Q
theorem pdd_nil {pos : Pos} : PDd C K pos [] [] dNil := ⟨[], fun _ _ => pps_nil, fun F H σ ρ m R e Q q => by
  cases e
  exact q [] F H (Same.refl H) (Gr.refl F H) R.ex trivial⟩
theorem pdd_cons {pos : Pos} {x : Str} {j} {p : Pos} {v : Expr} {ks : List (Option Expr)} {vs : List Expr} {a : E1} {t : D1} (ha : PEd C K v a) (ht : PDd C K pos ks vs t) : PDd C K pos (some (.Constant (.str x) j p) :: ks) (v :: vs) (dCons x a t) := by
  obtain ⟨ta, ha, sa⟩ := ha.ex
  obtain ⟨tt, ht, st⟩ := ht.ex
  refine ⟨(tC (.str x), ta) :: tt, fun X c => pps_cons pe_str (ha X c) (ht X c), fun F H σ ρ m R e Q q => ?_⟩
  unfold dCons at e
  cases e1 : a ρ with
  | none => rw [e1] at e; cases e
  | some d =>
    rw [e1] at e
    have e' : (t ρ).map (fun r => (x, d) :: r) = some m := e
    cases e2 : t ρ with
    | none => rw [e2] at e'; cases e'
    | some r =>
      rw [e2] at e'
      cases e'
      show ta σ H _
      refine sa F H σ ρ d R e1 _ fun v F1 H1 s1 g1 f1 r1 => ?_
      refine st F1 H1 σ ρ r (R.grow s1 g1 f1) e2 _ fun l F2 H2 s2 g2 f2 r2 => ?_
      exact q ((.inr x, v) :: l) F2 H2 (s1.trans s2) (g1.trans s1 g2) f2 ⟨rfl, Rp.mono g2.1 _ _ r1, r2⟩
theorem merge_one {κ : Type} [DecidableEq κ] : ∀ (more kvs : List (κ × V)), ((kvs ++ more).map (·.1)).Nodup → List.foldl (fun acc kv => putK acc kv.1 kv.2) kvs more = kvs ++ more
  | [], kvs, _ => by simp
  | (k, v) :: r, kvs, h => by
    have hv : valV kvs k = none := by
      unfold valV
      have : kvs.find? (fun kv => decide (kv.1 = k)) = none := by
        rw [List.find?_eq_none]
        intro p hp e
        have e' : p.1 = k := of_decide_eq_true e
        rw [List.map_append, List.nodup_append] at h
        exact h.2.2 p.1 (List.mem_map_of_mem hp) k (by simp) e'
      rw [this]
      rfl
    rw [List.foldl_cons]
    show List.foldl _ (putK kvs k v) r = _
    rw [putK_new v hv, merge_one r (kvs ++ [(k, v)]) (by simpa using h)]
    simp
theorem DkAll.keys {F : Hp} : ∀ {l : List (Key × V)} {m : List (Str × PyData)}, DkAll K F l m → l.map (·.1) = m.map fun p => Sum.inr p.1
  | [], [], _ => rfl
  | (_, _) :: _, (_, _) :: _, ⟨h1, _, h3⟩ => by rw [List.map_cons, List.map_cons, DkAll.keys h3]; exact congrArg (· :: _) h1
  | [], _ :: _, h => h.elim
  | _ :: _, [], h => h.elim
theorem DkAll.nodup {F : Hp} {l : List (Key × V)} {m : List (Str × PyData)} (h : DkAll K F l m) (n : (m.map (·.1)).Nodup) : (l.map (·.1)).Nodup := by
  rw [h.keys]
  have : (m.map fun p => (Sum.inr p.1 : Key)) = (m.map (·.1)).map Sum.inr := by rw [List.map_map]; rfl
  rw [this]
  exact n.map (f := (Sum.inr : Str → Key)) (fun a b e e' => e (Sum.inr.inj e'))
def findD (x : Str) : List (Str × PyData) → Option PyData
  | [] => none
  | (y, d) :: r => if y = x then some d else findD x r
def FindOk (K : PySem.W.Frag) (F : Hp) (l : List (Key × V)) (x : Str) : Option PyData → Prop
  | some d => ∃ v, valV l (Sum.inr x) = some v ∧ Rp K F v d
  | none => valV l (Sum.inr x) = none
theorem DkAll.find {F : Hp} {x : Str} : ∀ {l : List (Key × V)} {m : List (Str × PyData)}, DkAll K F l m → FindOk K F l x (findD x m)
  | [], [], _ => by show valV [] _ = none; rfl
  | (kk, v) :: l, (y, d) :: m, ⟨h1, h2, h3⟩ => by
    subst h1
    unfold findD
    by_cases e : y = x
    · subst e
      rw [if_pos rfl]
      exact ⟨v, valV_pos rfl, h2⟩
    · rw [if_neg e]
      have ih := DkAll.find (x := x) h3
      have hv : valV ((Sum.inr y, v) :: l) (Sum.inr x : Key) = valV l (Sum.inr x) := valV_neg (by intro z; exact e (Sum.inr.inj z))
      cases z : findD x m with
      | none =>
        rw [z] at ih
        exact hv.trans ih
      | some d' =>
        rw [z] at ih
        obtain ⟨v', h4, h5⟩ := ih
        exact ⟨v', hv.trans h4, h5⟩
  | [], _ :: _, h => h.elim
  | _ :: _, [], h => h.elim
theorem DkAll.length {F : Hp} : ∀ {l : List (Key × V)} {m : List (Str × PyData)}, DkAll K F l m → l.length = m.length
  | [], [], _ => rfl
  | (_, _) :: _, (_, _) :: _, ⟨_, _, h3⟩ => congrArg (· + 1) (DkAll.length h3)
  | [], _ :: _, h => h.elim
  | _ :: _, [], h => h.elim
/-- what the display evaluates to -/
def EvK (K : PySem.W.Frag) (te : TE) (σ : L2.St) (F H : Hp) (m : List (Str × PyData)) : Prop :=
  ∀ Q : VK, (∀ a ks F' H', Same H H' → Gr F F' H → Same F' H' → F' a = some (.dK ks) → DkAll K F' ks m → Q (.ref a) H') → te σ H Q
def okDisp (m : List (Str × PyData)) : Bool := decide ((m.map (·.1)).Nodup) && decide (m.length ≤ 15)
theorem disp_ev {trs : List (TE × TE)} {r : D1} (st : ∀ F H σ ρ m, Rel K F H σ ρ → r ρ = some m → ∀ Q : List (V × V) → Hp → Prop, (∀ l F' H', Same H H' → Gr F F' H → Same F' H' → DkAll K F' l m → Q (l.map fun kv => (kV kv.1, kv.2)) H') → tPairs trs σ H Q)
    {F H : Hp} {σ : L2.St} {ρ : Sl} {m : List (Str × PyData)} (R : Rel K F H σ ρ) (e : r ρ = some m) (ok : okDisp m = true) : EvK K (tDisp trs) σ F H m := fun Q q => by
  unfold okDisp at ok
  simp only [Bool.and_eq_true, decide_eq_true_eq] at ok
  intro p hp
  have s0 : Same H (upd H p (.dK [])) := same_upd hp
  refine st F (upd H p (.dK [])) σ ρ m (R.grow s0 (Gr.refl F H) (R.ex.trans s0)) e _ fun l F2 H2 s2 g2 f2 dk => ?_
  have hp2 : H2 p = some (.dK []) := s2 _ _ upd_same
  have hpF : F p = none := R.ex.free hp
  have hpF2 : F2 p = none := by
    cases z : F2 p with
    | none => rfl
    | some o =>
      rcases g2.2 p o z with z' | z'
      · rw [hpF] at z'; cases z'
      · rw [upd_same] at z'; cases z'
  refine ⟨hp2, l, rfl, by rw [dk.length]; exact ok.2, ?_⟩
  have hm : mergeK [] l = l := by
    have := merge_one l [] (by simpa using dk.nodup ok.1)
    simpa [mergeK] using this
  rw [hm]
  have sF : Same F2 (upd F2 p (.dK l)) := same_upd hpF2
  refine q p l (upd F2 p (.dK l)) (upd H2 p (.dK l)) (fun b o z => ?_) ⟨g2.1.trans sF, fun b o z => ?_⟩ (same_updB f2) upd_same (DkAll.mono sF dk)
  · have : b ≠ p := fun z' => by subst z'; rw [hp] at z; cases z
    rw [upd_ne this]
    exact s2 _ _ (s0 _ _ z)
  · by_cases qq : b = p
    · subst qq; exact .inr hp
    · rw [upd_ne qq] at z
      rcases g2.2 b o z with z' | z'
      · exact .inl z'
      · rw [upd_ne qq] at z'
        exact .inr z'
theorem RelS.setDk {F0 B F H : Hp} {σ : L2.St} {ρ : Sl} (R : RelS K F0 B F H σ ρ) {i : Nat} {a : Addr} {ks : List (Key × V)} {m : List (Str × PyData)} (h : F a = some (.dK ks)) (hd : DkAll K F ks m) : RelS K F0 B F H (σ.set i (some (.ref a))) (ρ.set i (some (.dk m))) := by
  have hne : ∀ (j : Nat) (ds : List PyData) (b : Addr), (ρ.set i (some (Cell.dk m)))[j]? = some (some (.ow ds)) → i ≠ j ∧ ρ[j]? = some (some (.ow ds)) := fun j ds b e => by
    rcases set_none_of e with ⟨_, z⟩ | ⟨ne, z⟩
    · cases z
    · exact ⟨ne, z⟩
  refine ⟨⟨by simp [R.r.len], R.r.ex, fun j c e => ?_, fun j kk ds es b ne e1 e2 e3 e4 => ?_⟩, R.sb, R.gr, fun j ds b e1 e2 => ?_⟩
  · rcases set_none_of e with ⟨q, z⟩ | ⟨ne, z⟩
    · subst q
      subst z
      have hl : i < σ.length := by
        rw [R.r.len]
        have := (List.getElem?_eq_some_iff.mp e).1
        simpa using this
      exact ⟨.ref a, List.getElem?_set_self hl, a, ks, rfl, h, hd⟩
    · rw [List.getElem?_set_ne ne]
      exact R.r.cell j c z
  · obtain ⟨n1, z1⟩ := hne j ds b e1
    obtain ⟨n2, z2⟩ := hne kk es b e2
    rw [List.getElem?_set_ne n1] at e3
    rw [List.getElem?_set_ne n2] at e4
    exact R.r.inj j kk ds es b ne z1 z2 e3 e4
  · obtain ⟨n1, z1⟩ := hne j ds b e1
    rw [List.getElem?_set_ne n1] at e2
    exact R.own j ds b z1 e2
/-- x = {..} -/
def sDk (i : Nat) (r : D1) : B1 := fun ρ => (r ρ).bind fun m => if okDisp m then some (.nx (ρ.set i (some (.dk m)))) else none
theorem ps1_dk (Z : Fam C P w K mg base N sc k top) (i : Nat) {x : Str} {keys : List (Option Expr)} {values : List Expr} {r : D1} {p pos pos' : Pos} (h : okS N sc top i x = true) (hr : PDd C K p keys values r)
    (h1 : (keys.all fun x => x.isSome) = true := by rfl) (h2 : keys.length = values.length := by rfl) (h3 : keys ≠ [] := by exact fun z => by cases z) (h4 : keys.length ≤ 15 := by decide)
    (hs : ∀ env, swapsWith (.Dict keys values p) (some (.Name x pos')) pos.line env = pure false := by intro _; rfl) :
    PSd C K (.Assign [.Name x pos'] (.Dict keys values p) pos) (sDk i r) := by
  obtain ⟨trs, hr, st⟩ := hr.ex
  refine ⟨tAsg (tDisp trs) (gName i), fun X c => let z := okS_ok Z h c; ps_set (Z.ndX c) z.1 z.2.1 (pe_disp (hr X c) h1 h2 h3 h4) (hs X.env) z.2.2, fun F0 B F H σ ρ fl D R e q => ?_⟩
  unfold sDk at e
  cases e1 : r ρ with
  | none => rw [e1] at e; cases e
  | some m =>
    rw [e1] at e
    have e2 : (if okDisp m then some (Fl.nx (ρ.set i (some (.dk m)))) else none) = some fl := e
    split at e2
    · rename_i ok
      cases e2
      exact disp_ev st R.r e1 ok _ fun a ks F1 H1 s1 g1 f1 h1 hd => q _ F1 H1 ((R.grow s1 g1 f1).setDk h1 hd)
    · cases e2
def dkAt (i : Nat) (ρ : Sl) : Option (List (Str × PyData)) := match ρ[i]? with
  | some (some (.dk m)) => some m
  | _ => none
theorem dkAt_ok {i : Nat} {ρ : Sl} {m : List (Str × PyData)} (h : dkAt i ρ = some m) : ρ[i]? = some (some (.dk m)) := by
  unfold dkAt at h
  split at h
  · rename_i e; cases h; exact e
  · cases h
/-- e in x -/
def rDkIn (i : Nat) (a : E1) : E1 := fun ρ => (a ρ).bind fun d => (dkAt i ρ).bind fun m => match d with
  | .str x => some (.bool (findD x m).isSome)
  | _ => none
theorem pd_dkIn (Z : Fam C P w K mg base N sc k top) (i : Nat) {x : Str} {px pos : Pos} {e : Expr} {a : E1} (h : okV N sc i x = true) (ha : PEd C K e a) (hm : behindInMarks .In (.Name x px) = false := by rfl) : PEd C K (.Compare e [.In] [.Name x px] pos) (rDkIn i a) := by
  obtain ⟨ta, ha, sa⟩ := ha.ex
  refine ⟨tDIn ta (tVar i), fun X c => pe_cmp (pc_din (by have := Z.units c; omega) (ha X c) (pe_ow (pos := px) Z h c)) hm, fun F H σ ρ d R e Q q => ?_⟩
  unfold rDkIn at e
  cases e1 : a ρ with
  | none => rw [e1] at e; cases e
  | some dx =>
    rw [e1] at e
    cases e2 : dkAt i ρ with
    | none =>
      have e' : ((dkAt i ρ).bind fun m => match dx with
        | .str x => some (PyData.bool (findD x m).isSome)
        | _ => none) = some d := e
      rw [e2] at e'
      cases e'
    | some m =>
      have e' : ((dkAt i ρ).bind fun m => match dx with
        | .str x => some (PyData.bool (findD x m).isSome)
        | _ => none) = some d := e
      rw [e2] at e'
      cases dx with
      | str y =>
        have e3 : some (PyData.bool (findD y m).isSome) = some d := e'
        cases e3
        refine sa F H σ ρ _ R e1 _ fun v F1 H1 s1 g1 f1 r1 => ?_
        have := rp_str r1
        subst this
        obtain ⟨u, hu, p, ks, rfl, hF, hd⟩ := (R.grow s1 g1 f1).cell i _ (dkAt_ok e2)
        refine ⟨.ref p, hu, p, valV ks (.inr y), rfl, DGet.k (k := .inr y) (f1 _ _ hF), ?_⟩
        have hf := DkAll.find (x := y) hd
        cases z : findD y m with
        | none =>
          rw [z] at hf
          have hf' : valV ks (Sum.inr y) = none := hf
          rw [hf']
          rw [z] at q
          exact q _ F1 H1 s1 g1 f1 (.bl false)
        | some d' =>
          rw [z] at hf q
          obtain ⟨v', h1, _⟩ := hf
          rw [h1]
          exact q _ F1 H1 s1 g1 f1 (.bl true)
      | _ => cases e'
/-- x[e] -/
def lookF (m : List (Str × PyData)) : PyData → Option PyData
  | .str x => findD x m
  | _ => none
def rDkGet (i : Nat) (a : E1) : E1 := fun ρ => (dkAt i ρ).bind fun m => (a ρ).bind (lookF m)
theorem pd_dkGet (Z : Fam C P w K mg base N sc k top) (i : Nat) {x : Str} {px pos : Pos} {e : Expr} {a : E1} (h : okV N sc i x = true) (ha : PEd C K e a) (hs : NoSl e := by exact fun _ _ => rfl) : PEd C K (.Subscript (.Name x px) e pos) (rDkGet i a) := by
  obtain ⟨ta, ha, sa⟩ := ha.ex
  refine ⟨tDGet (tVar i) ta, fun X c => pe_dget (by have := Z.units c; omega) (pe_ow (pos := px) Z h c) (ha X c) hs, fun F H σ ρ d R e Q q => ?_⟩
  unfold rDkGet at e
  cases e2 : dkAt i ρ with
  | none => rw [e2] at e; cases e
  | some m =>
    rw [e2] at e
    cases e1 : a ρ with
    | none =>
      have e' : (a ρ).bind (lookF m) = some d := e
      rw [e1] at e'
      cases e'
    | some dx =>
      have e' : (a ρ).bind (lookF m) = some d := e
      rw [e1] at e'
      have e3 : lookF m dx = some d := e'
      unfold lookF at e3
      split at e3
      · rename_i y
        obtain ⟨u, hu, p, ks, rfl, hF, hd⟩ := R.cell i _ (dkAt_ok e2)
        refine ⟨.ref p, hu, sa F H σ ρ _ R e1 _ fun v F1 H1 s1 g1 f1 r1 => ?_⟩
        have := rp_str r1
        subst this
        have hf := DkAll.find (x := y) (DkAll.mono g1.1 hd)
        rw [e3] at hf
        obtain ⟨v', h1, h2⟩ := hf
        exact ⟨p, v', rfl, by rw [← h1]; exact DGet.k (k := .inr y) (f1 _ _ (g1.1 _ _ hF)), q v' F1 H1 s1 g1 f1 h2⟩
      · cases e3
/-- {..}[e] -/
def rDispGet (r : D1) (a : E1) : E1 := fun ρ => (r ρ).bind fun m => if okDisp m then (a ρ).bind (lookF m) else none
theorem pd_dispGet (Z : Fam C P w K mg base N sc k top) {keys : List (Option Expr)} {values : List Expr} {r : D1} {p pos : Pos} {e : Expr} {a : E1} (hr : PDd C K p keys values r) (ha : PEd C K e a)
    (h1 : (keys.all fun x => x.isSome) = true := by rfl) (h2 : keys.length = values.length := by rfl) (h3 : keys ≠ [] := by exact fun z => by cases z) (h4 : keys.length ≤ 15 := by decide) (hs : NoSl e := by exact fun _ _ => rfl) : PEd C K (.Subscript (.Dict keys values p) e pos) (rDispGet r a) := by
  obtain ⟨trs, hr, st⟩ := hr.ex
  obtain ⟨ta, ha, sa⟩ := ha.ex
  refine ⟨tDGet (tDisp trs) ta, fun X c => pe_dget (by have := Z.units c; omega) (pe_disp (hr X c) h1 h2 h3 h4) (ha X c) hs, fun F H σ ρ d R e Q q => ?_⟩
  unfold rDispGet at e
  cases e2 : r ρ with
  | none => rw [e2] at e; cases e
  | some m =>
    rw [e2] at e
    have e' : (if okDisp m then (a ρ).bind (lookF m) else none) = some d := e
    split at e'
    · rename_i ok
      cases e1 : a ρ with
      | none => rw [e1] at e'; cases e'
      | some dx =>
        rw [e1] at e'
        have e3 : lookF m dx = some d := e'
        unfold lookF at e3
        split at e3
        · rename_i y
          refine disp_ev st R e2 ok _ fun p ks F0 H0 s0 g0 f0 hF hd => ?_
          refine sa F0 H0 σ ρ _ (R.grow s0 g0 f0) e1 _ fun v F1 H1 s1 g1 f1 r1 => ?_
          have := rp_str r1
          subst this
          have hf := DkAll.find (x := y) (DkAll.mono g1.1 hd)
          rw [e3] at hf
          obtain ⟨v', h1, h2⟩ := hf
          exact ⟨p, v', rfl, by rw [← h1]; exact DGet.k (k := .inr y) (f1 _ _ (g1.1 _ _ hF)), q v' F1 H1 (s0.trans s1) (g0.trans s0 g1) f1 h2⟩
        · cases e3
    · cases e'

/-! ### a table of the module -/
structure Tab (K : PySem.W.Frag) (w : World) (mg : Str → Option Value) (x : Str) (m : List (Str × PyData)) : Prop where
  ex : ∃ p, mg x = some (.ref p) ∧ ∀ y d, findD y m = some d → ∃ v, KDct K w p y v ∧ ∀ F, Rp K F v d
theorem pd_tab (Z : Fam C P w K mg base N sc k top) {x : Str} {m : List (Str × PyData)} {px pos : Pos} {e : Expr} {a : E1} (T : Tab K w mg x m) (ha : PEd C K e a) (hg : okG sc x = true) (hs : PlainIx e := by exact fun _ _ => rfl) : PEd C K (.Subscript (.Name x px) e pos) (rE1 (lookF m) a) := by
  unfold okG at hg
  simp only [Bool.and_eq_true] at hg
  obtain ⟨p, hm, hT⟩ := T.ex
  obtain ⟨ta, ha, sa⟩ := ha.ex
  refine ⟨tOp (rIxD K w) (tC (.ref p)) ta, fun X c => ?_, fun F H σ ρ d R e Q q => ?_⟩
  · have := ix_kdict (X := X)
    rw [Z.K_ X c, Z.wo X c] at this
    exact pe_ix this (pe_glob (Z.gl hg.1 c) (by rw [Z.mg_ X c]; exact hm) rfl (plainN_d hg.2)) (ha X c) hs
  · obtain ⟨x, e1, e2⟩ := bind1 e
    refine sa F H σ ρ x R e1 _ fun v F1 H1 s1 g1 f1 r1 => ?_
    unfold lookF at e2
    split at e2
    · rename_i y
      have := rp_str r1
      subst this
      obtain ⟨v, h1, h2⟩ := hT y d e2
      exact ⟨p, y, v, rfl, rfl, h1, q v F1 H1 s1 g1 f1 (h2 F1)⟩
    · cases e2

/-! ### in over a tuple of data -/
def fInTD (x y : PyData) : Option PyData := match y with
  | .tuple ds => if SeqAt.shaped x && SeqAt.shaped (.tuple ds) then some (.bool (ds.any fun z => z.eqv x)) else none
  | _ => none
theorem o2_inTD : Op2 K (rInTD K false) fInTD := fun F H x y dx dy d s rx ry e Q q => by
  unfold fInTD at e
  split at e
  · split at e
    · rename_i hh
      cases e
      simp only [Bool.and_eq_true] at hh
      exact ⟨dx, _, Rp.dp s _ _ rx, Rp.dp s _ _ ry, hh.1, hh.2, rv_here s (.bl _) q⟩
    · cases e
  · cases e
end
end Pd

set_option maxHeartbeats 2000000
/-! Pd10: the rules over a family; constants; defs called. -/
namespace Pd
open PySem PySem.Spec PyProof.Rows L2

section
variable {C : Cx → Prop} {P : Program} {w : World} {K : PySem.W.Frag} {mg : Str → Option Value} {base : Heap} {N : List Str} {sc : Scope} {k : Nat} {top : Bool}
theorem zEq (Z : Fam C P w K mg base N sc k top) : ∀ X, C X → OpR X (compareOp .Eq) (rEqA K) := fun X c => by
  have := op_eqD (X := X) (by have := Z.units c; omega); rw [Z.K_ X c] at this; exact OpR.or op_eq this
theorem zNe (Z : Fam C P w K mg base N sc k top) : ∀ X, C X → OpR X (compareOp .NotEq) (rNeA K) := fun X c => by
  have := op_neD (X := X) (by have := Z.units c; omega); rw [Z.K_ X c] at this; exact OpR.or op_ne this
theorem zIn (Z : Fam C P w K mg base N sc k top) : ∀ X, C X → OpR X (compareOp .In) (rInA K false) := fun X c => by
  have := op_inA (X := X); rw [Z.K_ X c] at this; exact this
theorem zNotIn (Z : Fam C P w K mg base N sc k top) : ∀ X, C X → OpR X (compareOp .NotIn) (rInA K true) := fun X c => by
  have := op_notInA (X := X); rw [Z.K_ X c] at this; exact this
theorem zInTD (Z : Fam C P w K mg base N sc k top) : ∀ X, C X → OpR X (compareOp .In) (rInTD K false) := fun X c => by
  have := op_inTD (X := X) (by have := Z.units c; omega); rw [Z.K_ X c] at this; exact this
theorem zIx (Z : Fam C P w K mg base N sc k top) : ∀ X, C X → IxR X (rIx K) := fun X c => by
  have := ix_A (X := X); rw [Z.K_ X c] at this; exact this
theorem zLen (Z : Fam C P w K mg base N sc k top) : ∀ X, C X → CallR X (.builtin "len") (fun xs H Q => ∃ x n, xs = [x] ∧ LenV K x H n ∧ Q (V.int ↑n) H) := fun X c => by
  have := call_len (X := X); rw [Z.K_ X c] at this; exact this
theorem zAll (Z : Fam C P w K mg base N sc k top) : ∀ X, C X → CallR X (.builtin "all") (rAll K) := fun X c => by
  have := cr_all (X := X) (Z.calm X c); rw [Z.K_ X c] at this; exact this
theorem zTuple (Z : Fam C P w K mg base N sc k top) : ∀ X, C X → CallR X (.type "tuple") (fun xs H Q => ∃ p ys, xs = [V.ref p] ∧ ((SqL K H p ys ∧ ∀ (l : Addr), H l = none → Q (V.ref l) (upd H l (HO.tup ys))) ∨ SqT K H p ys ∧ Q (V.ref p) H)) := fun X c => by
  have := call_tuple_of (X := X); rw [Z.K_ X c] at this; exact this
theorem zList (Z : Fam C P w K mg base N sc k top) : ∀ X, C X → CallR X (.type "list") (fun xs H Q => ∃ p ys, xs = [V.ref p] ∧ (SqL K H p ys ∨ SqT K H p ys) ∧ ∀ (l : Addr), H l = none → Q (V.ref l) (upd H l (HO.lst ys))) := fun X c => by
  have := call_list_of (X := X); rw [Z.K_ X c] at this; exact this
def fNeg : PyData → Option PyData
  | .int i => some (.int (-i))
  | _ => none
theorem o1_neg : Op1 K (rU fun i => V.int (-i)) fNeg := fun F H x dx d s r e Q q => by
  unfold fNeg at e
  split at e
  · cases e
    cases r
    exact ⟨_, rfl, rv_here s (.int _) q⟩
  · cases e
/-- a constant of the module -/
def GD (K : PySem.W.Frag) (mg : Str → Option Value) (x : Str) (d : PyData) : Prop := ∃ v u, mg x = some u ∧ RelV v u ∧ ∀ F, Rp K F v d
theorem pd_gd (Z : Fam C P w K mg base N sc k top) {x : Str} {d : PyData} {pos : Pos} (g : GD K mg x d) (h : okG sc x = true) : PEd C K (.Name x pos) (rC d) := by
  obtain ⟨v, u, h1, h2, h3⟩ := g
  exact pd_glob Z ⟨u, h1, h2⟩ h3 h
/-- a def of the module -/
def DF (K : PySem.W.Frag) (mg : Str → Option Value) (x : Str) (st : Stmt) (dvs : List V) : Prop := ∃ f fd, mg x = some (.ref f) ∧ FunD K x x (defArgs st) (defBody st) (defScope st) dvs [] f fd
theorem spD_none {n : Nat} {vs : List V} {H : Hp} {Q : VK} {E : XK} (h : spD K n (fun _ => none) vs H Q E) : False := by
  obtain ⟨F, ds, d, _, _, _, e, _⟩ := h
  cases e
/-- no answer at all: the start of a def that calls itself -/
theorem cal_zero {x : Str} {st : Stmt} {j n : Nat} {ps : List Str} (D : DF K mg x st []) (hn : ps.length = n)
    (hb : ∀ (kV doc pm : Value) (an : Option Addr) (cdv ct : Value) (us : List Value), us.length = ps.length → bindArgs (PySem.W.fnOf x x (defArgs st) (defBody st) (defScope st) Value.none kV doc pm an cdv ct) { pos := us } = pure (ps.zip us)) :
    Cal P w K mg base j x n (fun _ => none) := by
  obtain ⟨f, fd, hm, F⟩ := D
  exact ⟨f, fd, ps, hm, F.kp, hn, ⟨fun vs H Q E h => (spD_none h).elim, fun A outer s H args us vs Q E _ _ _ _ h => (spD_none h).elim⟩, F.bindsN hb, FunD.look F⟩
/-- a def of data keeps its promise -/
theorem cal_of {x : Str} {st : Stmt} {n nN : Nat} {ps : List Str} {b : B1} (D : DF K mg x st []) (S : FnScope N ps (defScope st)) (hN : N.length = nN) (hn : ps.length = n)
    (hb : ∀ (kV doc pm : Value) (an : Option Addr) (cdv ct : Value) (us : List Value), us.length = ps.length → bindArgs (PySem.W.fnOf x x (defArgs st) (defBody st) (defScope st) Value.none kV doc pm an cdv ct) { pos := us } = pure (ps.zip us))
    (h : ∀ f, Fam (Bod P w K mg base N x (defScope st) f k) P w K mg base N (defScope st) k true → PSsd (Bod P w K mg base N x (defScope st) f k) K (defBody st) b) : Cal P w K mg base (k + 1) x n (runB nN b) := by
  obtain ⟨f, fd, hm, F⟩ := D
  subst hn
  subst hN
  exact ⟨f, fd, ps, hm, F.kp, rfl, fn_data F S (h f (fam_bod S.nd)), F.bindsN hb, FunD.look F⟩
end
end Pd

set_option maxHeartbeats 2000000
/-! Pd11: < of data; a def with one default. -/
namespace Pd
open PySem PySem.Spec PyProof.Rows L2
section
variable {X : Cx}
def rLtD (K : PySem.W.Frag) : R2 := fun x y H Q => ∃ d e, Dp K H x d ∧ Dp K H y e ∧ PySem.W.alike d e = true ∧ d ≠ .none ∧ d.depth ≤ 60 ∧ Q (.bl (PySem.W.dataLt d e)) H
theorem op_ltD (hu : X.A.units + 65 < cLine) : OpR X (compareOp .Lt) (rLtD X.K) := by
  intro pins s σ H x y v u Q I rx ry h
  obtain ⟨d, e, hd, he, ha, hn, hz, q⟩ := h
  obtain ⟨as, r1⟩ := Dp.reads I d x v hd rx
  obtain ⟨bs, r2⟩ := Dp.reads I e y u he ry
  exact PySem.W.rcLt_alike d e X.A s v u as bs r1 r2 ha hn (by have := Nat.min_le_left d.depth e.depth; omega) X.prog X.w _ _ ⟨.bl _, H, I, rfl, q⟩
end
section
variable {C : Cx → Prop} {P : Program} {w : World} {K : PySem.W.Frag} {mg : Str → Option Value} {base : Heap} {N : List Str} {sc : Scope} {k : Nat} {top : Bool}
theorem zLtD (Z : Fam C P w K mg base N sc k top) : ∀ X, C X → OpR X (compareOp .Lt) (rLtD K) := fun X c => by
  have := op_ltD (X := X) (by have := Z.units c; omega); rw [Z.K_ X c] at this; exact this
def isNon : PyData → Bool
  | .none => true
  | _ => false
def fLtD (x y : PyData) : Option PyData := if PySem.W.alike x y && (!isNon x && decide (x.depth ≤ 60)) then some (.bool (PySem.W.dataLt x y)) else none
theorem o2_ltD : Op2 K (rLtD K) fLtD := fun F H x y dx dy d s rx ry e Q q => by
  unfold fLtD at e
  split at e
  · rename_i hh
    cases e
    simp only [Bool.and_eq_true, Bool.not_eq_true', decide_eq_true_eq] at hh
    refine ⟨dx, dy, Rp.dp s _ _ rx, Rp.dp s _ _ ry, hh.1, ?_, hh.2.2, rv_here s (.bl _) q⟩
    intro z
    rw [z] at hh
    cases hh.2.1
  · cases e

/-! ### a def whose last parameter has a default -/
structure Cal1 (P : Program) (w : World) (K : PySem.W.Frag) (mg : Str → Option Value) (base : Heap) (j : Nat) (x : Str) (n : Nat) (m : List PyData → Option PyData) (d : PyData) : Prop where
  ex : ∃ f fd ps ds v, mg x = some (.ref f) ∧ PySem.W.keepIn K (.ref f) = true ∧ ps.length = n + 1 ∧ FnOk P w K mg base CX0 j f fd ps (spD K (n + 1) m) ∧ Binds K fd ps ds ∧ Vals [v] ds ∧ ∀ F, Rp K F v d
theorem pd_call1 {j : Nat} {x : Str} {n : Nat} {m : List PyData → Option PyData} {dd : PyData} {e : Expr} {es : List Expr} {t : A1} {p pos : Pos} (Z : Fam C P w K mg base N sc k top) (c : Cal1 P w K mg base j x n m dd) (hj : j ≤ k) (ha : PAd C K (e :: es) t) (h : okG sc x = true)
    (he : ∀ env, starEach (e :: es) env = (false, eval e env) :: starEach es env := by intro _; rfl) (hpl : ∀ env, (backTo pos (starEach es env)).any (·.1) = false := by intro _; rfl) : PEd C K (.Call (.Name x p) (e :: es) [] pos) (rCall n (fun ds => m (ds ++ [dd])) t) := by
  unfold okG at h
  simp only [Bool.and_eq_true] at h
  obtain ⟨f, fd, ps, dvs, v, hm, kp, hn, G, b, hv, hr⟩ := c.ex
  obtain ⟨ta, ha, sa⟩ := ha.ex
  refine ⟨tCall (spD K (n + 1) m) [v] E0 ta, fun X c => ?_, fun F H σ ρ d R e Q q => ?_⟩
  · have e1 := Z.prog X c
    have e2 := Z.wo X c
    have e3 := Z.K_ X c
    have e4 := Z.mg_ X c
    have e5 := Z.base_ X c
    exact pe_call (F := by rw [e1, e2, e3, e4, e5]; exact G) ((Z.room X c).mono hj) (Z.gl h.1 c) (by rw [e4]; exact hm) (by rw [e3]; exact kp) (by rw [e3]; exact b) hv pass0 (ha X c) (plainN_d h.2) (he X.env) (hpl X.env)
  · unfold rCall at e
    split at e
    · split at e
      · rename_i ds e1 hl
        refine sa F H σ ρ ds R e1 _ fun vs F1 H1 s1 g1 f1 r1 => ⟨F1, ds ++ [dd], d, by simp [hl], f1, r1.append (.cons (hr F1) .nil), e, fun v F2 H2 s2 g2 f2 r2 => q v F2 H2 (s1.trans s2) (g1.trans s1 g2) f2 r2⟩
      · cases e
    · cases e
/-- how such a def binds: all given; the last one lacks -/
structure Bind1 (x : Str) (st : Stmt) (ps : List Str) (n : Nat) : Prop where
  full : ∀ (T : Addr) (kV doc pm : Value) (an : Option Addr) (cdv ct : Value) (us its : List Value), us.length = n + 1 → its.length = 1 →
      ∃ k, bindArgs (PySem.W.fnOf x x (defArgs st) (defBody st) (defScope st) (.ref T) kV doc pm an cdv ct) ⟨us, []⟩ = seqItems? (.ref T) >>= k ∧ k (some its.toArray) = pure (ps.zip (us ++ its.drop 1))
  lack : ∀ (T : Addr) (kV doc pm : Value) (an : Option Addr) (cdv ct : Value) (us its : List Value), us.length = n → its.length = 1 →
      ∃ k, bindArgs (PySem.W.fnOf x x (defArgs st) (defBody st) (defScope st) (.ref T) kV doc pm an cdv ct) ⟨us, []⟩ = seqItems? (.ref T) >>= k ∧ k (some its.toArray) = pure (ps.zip (us ++ its.drop 0))
theorem cal_zeroD {x : Str} {st : Stmt} {j n : Nat} {ps : List Str} {v : V} (D : DF K mg x st [v]) (hn : ps.length = n + 1) (B : Bind1 x st ps n) : Cal P w K mg base j x (n + 1) (fun _ => none) := by
  obtain ⟨f, fd, hm, F⟩ := D
  obtain ⟨ds, h1, h2⟩ := F.binds1 (ps := ps) (n + 1) 1 (by simp) (by simp [hn]) B.full
  cases h1
  exact ⟨f, fd, ps, hm, F.kp, hn, ⟨fun vs H Q E h => (spD_none h).elim, fun A outer s H args us vs Q E _ _ _ _ h => (spD_none h).elim⟩, h2, FunD.look F⟩
theorem cal_ofD {x : Str} {st : Stmt} {n nN : Nat} {ps : List Str} {b : B1} {v : V} (D : DF K mg x st [v]) (S : FnScope N ps (defScope st)) (hN : N.length = nN) (hn : ps.length = n + 1) (B : Bind1 x st ps n)
    (h : ∀ f, Fam (Bod P w K mg base N x (defScope st) f k) P w K mg base N (defScope st) k true → PSsd (Bod P w K mg base N x (defScope st) f k) K (defBody st) b) : Cal P w K mg base (k + 1) x (n + 1) (runB nN b) := by
  obtain ⟨f, fd, hm, F⟩ := D
  subst hN
  obtain ⟨ds, h1, h2⟩ := F.binds1 (ps := ps) (n + 1) 1 (by simp) (by simp [hn]) B.full
  cases h1
  have := fn_data F S (h f (fam_bod S.nd))
  rw [hn] at this
  exact ⟨f, fd, ps, hm, F.kp, hn, this, h2, FunD.look F⟩
theorem cal_ofD1 {x : Str} {st : Stmt} {n nN : Nat} {ps : List Str} {b : B1} {v : V} {d : PyData} (D : DF K mg x st [v]) (S : FnScope N ps (defScope st)) (hN : N.length = nN) (hn : ps.length = n + 1) (B : Bind1 x st ps n) (hd : ∀ F, Rp K F v d)
    (h : ∀ f, Fam (Bod P w K mg base N x (defScope st) f k) P w K mg base N (defScope st) k true → PSsd (Bod P w K mg base N x (defScope st) f k) K (defBody st) b) : Cal1 P w K mg base (k + 1) x n (runB nN b) d := by
  obtain ⟨f, fd, hm, F⟩ := D
  subst hN
  obtain ⟨ds, h1, h2⟩ := F.binds1 (ps := ps) n 0 (by simp) (by simp [hn]) B.lack
  have := fn_data F S (h f (fam_bod S.nd))
  rw [hn] at this
  exact ⟨f, fd, ps, ds, v, hm, F.kp, hn, this, h2, h1, hd⟩
end
end Pd

set_option maxHeartbeats 2000000
/-! Pd12: a region of the heap that changes (an object's fields, a dict that is drawn from): expressions. -/
namespace Pd
open PySem PySem.Spec PyProof.Rows L2

/-- a region: where it lies (Δ), what it holds (S), the value that names it -/
structure Reg where
  Δ : Type
  S : Type
  D : Δ → Addr → Prop
  St : Δ → S → Hp → Prop
  lk : Δ → V
  frame : ∀ δ s H H', St δ s H → (∀ a, D δ a → H' a = H a) → St δ s H'
  occ : ∀ δ s H a, St δ s H → D δ a → H a ≠ none

def SameX (D : Addr → Prop) (H H' : Hp) : Prop := ∀ a o, ¬ D a → H a = some o → H' a = some o
structure RelN (G : Reg) (δ : G.Δ) (i : Nat) (K : PySem.W.Frag) (F H : Hp) (σ : L2.St) (ρ : Sl) : Prop where
  r : Rel K F H σ ρ
  av : ∀ a, G.D δ a → F a = none
  ow : ∀ (j : Nat) (ds : List PyData) (a : Addr), ρ[j]? = some (some (.ow ds)) → σ[j]? = some (some (.ref a)) → ¬ G.D δ a
  lk : σ[i]? = some (some (G.lk δ))
  hid : ρ[i]? = some none
/-- what is behind an expression -/
structure Aft (G : Reg) (δ : G.Δ) (F H : Hp) (s' : G.S) (F' H' : Hp) : Prop where
  sx : SameX (G.D δ) H H'
  gr : Gr F F' H
  ex : Same F' H'
  st : G.St δ s' H'
section
variable {G : Reg} {δ : G.Δ} {i : Nat} {K : PySem.W.Frag} {F F' F'' H H' H'' : Hp} {σ : L2.St} {ρ : Sl} {s s' s'' : G.S}
theorem Aft.refl (e : Same F H) (st : G.St δ s H) : Aft G δ F H s F H := ⟨fun _ _ _ h => h, Gr.refl F H, e, st⟩
theorem Aft.free (a : Aft G δ F H s' F' H') {x : Addr} (h : H' x = none) : H x = none := by
  cases q : H x with
  | none => rfl
  | some o =>
    by_cases d : G.D δ x
    · exact absurd h (G.occ δ s' H' x a.st d)
    · rw [a.sx x o d q] at h; cases h
theorem Aft.trans (a : Aft G δ F H s' F' H') (b : Aft G δ F' H' s'' F'' H'') : Aft G δ F H s'' F'' H'' :=
  ⟨fun x o d h => b.sx x o d (a.sx x o d h), ⟨a.gr.1.trans b.gr.1, fun x o h => (b.gr.2 x o h).elim (fun h1 => a.gr.2 x o h1) (fun hn => .inr (a.free hn))⟩, b.ex, b.st⟩
theorem St.same (s1 : Same H H') (st : G.St δ s H) : G.St δ s H' := G.frame δ s H H' st fun a d => by
  cases q : H a with
  | none => exact absurd q (G.occ δ s H a st d)
  | some o => exact s1 a o q
theorem Aft.pure (st : G.St δ s H) (s1 : Same H H') (g : Gr F F' H) (e : Same F' H') : Aft G δ F H s F' H' := ⟨fun a o _ h => s1 a o h, g, e, St.same s1 st⟩
theorem av_gr (av : ∀ a, G.D δ a → F a = none) (st : G.St δ s H) (g : Gr F F' H) : ∀ a, G.D δ a → F' a = none := fun a d => by
  cases q : F' a with
  | none => rfl
  | some o =>
    rcases g.2 a o q with z | z
    · rw [av a d] at z; cases z
    · exact absurd z (G.occ δ s H a st d)
theorem RelN.aft (R : RelN G δ i K F H σ ρ) (st : G.St δ s H) (a : Aft G δ F H s' F' H') : RelN G δ i K F' H' σ ρ := by
  refine ⟨⟨R.r.len, a.ex, fun j c e => ?_, R.r.inj⟩, av_gr R.av st a.gr, R.ow, R.lk, R.hid⟩
  obtain ⟨v, hv, hc⟩ := R.r.cell j c e
  refine ⟨v, hv, ?_⟩
  cases c with
  | vl d => exact Rp.mono a.gr.1 _ _ hc
  | ow ds =>
    obtain ⟨b, vs, rfl, h1, h2, h3⟩ := hc
    have nd := R.ow j ds b e hv
    refine ⟨b, vs, rfl, a.sx _ _ nd h1, ?_, RpAll.mono a.gr.1 _ _ h3⟩
    cases q : F' b with
    | none => rfl
    | some o =>
      rcases a.gr.2 b o q with z | z
      · rw [h2] at z; cases z
      · rw [h1] at z; cases z
  | dk m =>
    obtain ⟨b, ks, rfl, h1, h2⟩ := hc
    exact ⟨b, ks, rfl, a.gr.1 _ _ h1, DkAll.mono a.gr.1 h2⟩
  | fz m =>
    obtain ⟨b, o, ks, rfl, h1, h2⟩ := hc
    exact ⟨b, o, ks, rfl, a.gr.1 _ _ h1, DkAll.mono a.gr.1 h2⟩
  | nk m =>
    obtain ⟨d, es, ep, rfl, h1, h2, h3⟩ := hc
    exact ⟨d, es, ep, rfl, a.gr.1 _ _ h1, h2, NkAll.mono a.gr.1 h3⟩
end
/-! ### judgements -/
abbrev EN (S : Type) := Sl → S → (PyData → S → Prop) → Prop
abbrev TN (S : Type) := Sl → S → (Bool → S → Prop) → Prop
abbrev AN (S : Type) := Sl → S → (List PyData → S → Prop) → Prop
def SndE (G : Reg) (i : Nat) (K : PySem.W.Frag) (te : TE) (r : EN G.S) : Prop := ∀ δ F H σ ρ s W, RelN G δ i K F H σ ρ → G.St δ s H → r ρ s W → ∀ Q : VK, (∀ v d s' F' H', W d s' → Aft G δ F H s' F' H' → Rp K F' v d → Q v H') → te σ H Q
def SndT (G : Reg) (i : Nat) (K : PySem.W.Frag) (tt : TT) (r : TN G.S) : Prop := ∀ δ F H σ ρ s W, RelN G δ i K F H σ ρ → G.St δ s H → r ρ s W → ∀ Q : Bool → Hp → Prop, (∀ b s' F' H', W b s' → Aft G δ F H s' F' H' → Q b H') → tt σ H Q
def SndA (G : Reg) (i : Nat) (K : PySem.W.Frag) (ta : TA) (r : AN G.S) : Prop := ∀ δ F H σ ρ s W, RelN G δ i K F H σ ρ → G.St δ s H → r ρ s W → ∀ Q : List V → Hp → Prop, (∀ vs ds s' F' H', W ds s' → Aft G δ F H s' F' H' → RpAll K F' vs ds → Q vs H') → ta σ H Q
structure PEn (C : Cx → Prop) (K : PySem.W.Frag) (G : Reg) (i : Nat) (e : Expr) (r : EN G.S) : Prop where
  ex : ∃ te, (∀ X, C X → PE X e te) ∧ SndE G i K te r
structure PTn (C : Cx → Prop) (K : PySem.W.Frag) (G : Reg) (i : Nat) (e : Expr) (r : TN G.S) : Prop where
  ex : ∃ te, (∀ X, C X → PT X e te) ∧ SndT G i K te r
structure PWn (C : Cx → Prop) (K : PySem.W.Frag) (G : Reg) (i : Nat) (e : Expr) (r : TN G.S) : Prop where
  ex : ∃ te, (∀ X, C X → PW X e te) ∧ SndT G i K te r
structure PAn (C : Cx → Prop) (K : PySem.W.Frag) (G : Reg) (i : Nat) (es : List Expr) (r : AN G.S) : Prop where
  ex : ∃ te, (∀ X, C X → PA X es te) ∧ SndA G i K te r
/-! ### mirrors -/
def nL {S : Type} (r : E1) : EN S := fun ρ s W => ∃ d, r ρ = some d ∧ W d s
def nTL {S : Type} (r : T1) : TN S := fun ρ s W => ∃ d, r ρ = some d ∧ W d s
def nAL {S : Type} (r : A1) : AN S := fun ρ s W => ∃ d, r ρ = some d ∧ W d s
def nE1 {S : Type} (f : PyData → Option PyData) (a : EN S) : EN S := fun ρ s W => a ρ s fun x s1 => ∃ d, f x = some d ∧ W d s1
def nE2 {S : Type} (f : PyData → PyData → Option PyData) (a b : EN S) : EN S := fun ρ s W => a ρ s fun x s1 => b ρ s1 fun y s2 => ∃ d, f x y = some d ∧ W d s2
def nA {S : Type} (f : List PyData → Option PyData) (a : AN S) : EN S := fun ρ s W => a ρ s fun xs s1 => ∃ d, f xs = some d ∧ W d s1
def nNil {S : Type} : AN S := fun _ s W => W [] s
def nCons {S : Type} (a : EN S) (t : AN S) : AN S := fun ρ s W => a ρ s fun x s1 => t ρ s1 fun xs s2 => W (x :: xs) s2
def nIf {S : Type} (c : TN S) (a b : EN S) : EN S := fun ρ s W => c ρ s fun k s1 => if k then a ρ s1 W else b ρ s1 W
def nVal {S : Type} (a : EN S) : TN S := fun ρ s W => a ρ s fun x s1 => ∃ b, x = .bool b ∧ W b s1
def nAnd {S : Type} (a b : TN S) : TN S := fun ρ s W => a ρ s fun k s1 => if k then b ρ s1 W else W false s1
def nOr {S : Type} (a b : TN S) : TN S := fun ρ s W => a ρ s fun k s1 => if k then W true s1 else b ρ s1 W
def nNot {S : Type} (a : TN S) : TN S := fun ρ s W => a ρ s fun k s1 => W (!k) s1
section
variable {C : Cx → Prop} {P : Program} {w : World} {K : PySem.W.Frag} {mg : Str → Option Value} {base : Heap} {N : List Str} {sc : Scope} {k : Nat} {top : Bool} {G : Reg} {i : Nat}
theorem pn_lift {e : Expr} {r : E1} (h : PEd C K e r) : PEn C K G i e (nL r) := by
  obtain ⟨te, h, sd⟩ := h.ex
  refine ⟨te, h, fun δ F H σ ρ s W R st hr Q q => ?_⟩
  obtain ⟨d, e1, hw⟩ := hr
  exact sd F H σ ρ d R.r e1 Q fun v F1 H1 s1 g1 f1 r1 => q v d s F1 H1 hw (Aft.pure st s1 g1 f1) r1
theorem ptn_lift {e : Expr} {r : T1} (h : PTd C K e r) : PTn C K G i e (nTL r) := by
  obtain ⟨te, h, sd⟩ := h.ex
  refine ⟨te, h, fun δ F H σ ρ s W R st hr Q q => ?_⟩
  obtain ⟨d, e1, hw⟩ := hr
  exact sd F H σ ρ d R.r e1 Q fun H1 s1 => q d s F H1 hw (Aft.pure st s1 (Gr.refl F H) (R.r.ex.trans s1))
theorem pan_lift {es : List Expr} {r : A1} (h : PAd C K es r) : PAn C K G i es (nAL r) := by
  obtain ⟨te, h, sd⟩ := h.ex
  refine ⟨te, h, fun δ F H σ ρ s W R st hr Q q => ?_⟩
  obtain ⟨d, e1, hw⟩ := hr
  exact sd F H σ ρ d R.r e1 Q fun v F1 H1 s1 g1 f1 r1 => q v d s F1 H1 hw (Aft.pure st s1 g1 f1) r1
theorem snd_r2 {ta tb : TE} {ra rb : EN G.S} {r : R2} {f : PyData → PyData → Option PyData} (hf : Op2 K r f) (sa : SndE G i K ta ra) (sb : SndE G i K tb rb) : SndE G i K (tOp r ta tb) (nE2 f ra rb) := fun δ F H σ ρ s W R st hr Q q =>
  sa δ F H σ ρ s _ R st hr _ fun v x s1 F1 H1 hw a1 r1 => sb δ F1 H1 σ ρ s1 _ (R.aft st a1) a1.st hw _ fun u y s2 F2 H2 hw2 a2 r2 => by
    obtain ⟨d, e, hw3⟩ := hw2
    exact hf F2 H2 v u x y d a2.ex (Rp.mono a2.gr.1 _ _ r1) r2 e Q fun z F3 H3 s3 g3 f3 r3 => q z d s2 F3 H3 hw3 ((a1.trans a2).trans (Aft.pure a2.st s3 g3 f3)) r3
theorem pn_bin {op : Operator} {r : R2} {f : PyData → PyData → Option PyData} {a b : Expr} {ra rb : EN G.S} {pos : Pos} (ho : ∀ X, C X → OpR X (binaryOp op) r) (hf : Op2 K r f) (ha : PEn C K G i a ra) (hb : PEn C K G i b rb) : PEn C K G i (.BinOp a op b pos) (nE2 f ra rb) := by
  obtain ⟨ta, ha, sa⟩ := ha.ex
  obtain ⟨tb, hb, sb⟩ := hb.ex
  exact ⟨tOp r ta tb, fun X c => pe_op (ho X c) (ha X c) (hb X c), snd_r2 hf sa sb⟩
theorem pn_cmp {op : CmpOp} {r : R2} {f : PyData → PyData → Option PyData} {a b : Expr} {ra rb : EN G.S} {pos : Pos} (ho : ∀ X, C X → OpR X (compareOp op) r) (hf : Op2 K r f) (ha : PEn C K G i a ra) (hb : PEn C K G i b rb) (hm : behindInMarks op b = false) : PEn C K G i (.Compare a [op] [b] pos) (nE2 f ra rb) := by
  obtain ⟨ta, ha, sa⟩ := ha.ex
  obtain ⟨tb, hb, sb⟩ := hb.ex
  exact ⟨tOp r ta tb, fun X c => pe_cmpR (ho X c) (ha X c) (hb X c) hm, snd_r2 hf sa sb⟩
theorem snd_test {te : TE} {r : EN G.S} (se : SndE G i K te r) : SndT G i K (tTest te) (nVal r) := fun δ F H σ ρ s W R st hr Q q =>
  se δ F H σ ρ s _ R st hr _ fun v d s1 F1 H1 hw a1 r1 => by
    obtain ⟨b, rfl, hw⟩ := hw
    exact ⟨b, rp_bl r1, q b s1 F1 H1 hw a1⟩
theorem ptn_cmp {op : CmpOp} {r : R2} {f : PyData → PyData → Option PyData} {a b : Expr} {ra rb : EN G.S} {pos : Pos} (ho : ∀ X, C X → OpR X (compareOp op) r) (hf : Op2 K r f) (ha : PEn C K G i a ra) (hb : PEn C K G i b rb) (hm : behindInMarks op b = false) : PTn C K G i (.Compare a [op] [b] pos) (nVal (nE2 f ra rb)) := by
  obtain ⟨ta, ha, sa⟩ := ha.ex
  obtain ⟨tb, hb, sb⟩ := hb.ex
  exact ⟨tTest (tOp r ta tb), fun X c => pt_cmpR (ho X c) (ha X c) (hb X c) hm, snd_test (snd_r2 hf sa sb)⟩
theorem ptn_val {e : Expr} {r : EN G.S} (h : PEn C K G i e r) (he : ∀ env whole, isTrue e env whole = (do let v ← whole; standAt e.pos; holding [v] (truthy v)) := by intro _ _; rfl) : PTn C K G i e (nVal r) := by
  obtain ⟨te, h, s⟩ := h.ex
  exact ⟨tB te, fun X c => pt_val (h X c) (he X.env), snd_test s⟩
theorem ptn_not {a : Expr} {ra : TN G.S} {pos : Pos} (ha : PTn C K G i a ra) : PTn C K G i (.UnaryOp .Not a pos) (nNot ra) := by
  obtain ⟨ta, ha, sa⟩ := ha.ex
  exact ⟨tNot ta, fun X c => pt_not (ha X c), fun δ F H σ ρ s W R st hr Q q => sa δ F H σ ρ s _ R st hr _ fun b s1 F1 H1 hw a1 => q _ s1 F1 H1 hw a1⟩
theorem pwn_and1 {a : Expr} {ra : TN G.S} {pos : Pos} (h : PTn C K G i a ra) : PWn C K G i (.BoolOp .And [a] pos) ra := by
  obtain ⟨ta, ha, sa⟩ := h.ex
  exact ⟨ta, fun X c => pw_and1 (ha X c), sa⟩
theorem pwn_or1 {a : Expr} {ra : TN G.S} {pos : Pos} (h : PTn C K G i a ra) : PWn C K G i (.BoolOp .Or [a] pos) ra := by
  obtain ⟨ta, ha, sa⟩ := h.ex
  exact ⟨ta, fun X c => pw_or1 (ha X c), sa⟩
theorem pwn_and {a b : Expr} {rest : List Expr} {ra rb : TN G.S} {pos : Pos} (ha : PTn C K G i a ra) (hb : PWn C K G i (.BoolOp .And (b :: rest) pos) rb) : PWn C K G i (.BoolOp .And (a :: b :: rest) pos) (nAnd ra rb) := by
  obtain ⟨ta, ha, sa⟩ := ha.ex
  obtain ⟨tb, hb, sb⟩ := hb.ex
  refine ⟨tAnd ta tb, fun X c => pw_and (ha X c) (hb X c), fun δ F H σ ρ s W R st hr Q q => sa δ F H σ ρ s _ R st hr _ fun b s1 F1 H1 hw a1 => ?_⟩
  cases b with
  | true =>
    rw [if_pos rfl] at hw ⊢
    exact sb δ F1 H1 σ ρ s1 W (R.aft st a1) a1.st hw Q fun b s2 F2 H2 hw2 a2 => q b s2 F2 H2 hw2 (a1.trans a2)
  | false =>
    rw [if_neg Bool.false_ne_true] at hw ⊢
    exact q false s1 F1 H1 hw a1
theorem pwn_or {a b : Expr} {rest : List Expr} {ra rb : TN G.S} {pos : Pos} (ha : PTn C K G i a ra) (hb : PWn C K G i (.BoolOp .Or (b :: rest) pos) rb) : PWn C K G i (.BoolOp .Or (a :: b :: rest) pos) (nOr ra rb) := by
  obtain ⟨ta, ha, sa⟩ := ha.ex
  obtain ⟨tb, hb, sb⟩ := hb.ex
  refine ⟨tOr ta tb, fun X c => pw_or (ha X c) (hb X c), fun δ F H σ ρ s W R st hr Q q => sa δ F H σ ρ s _ R st hr _ fun b s1 F1 H1 hw a1 => ?_⟩
  cases b with
  | true =>
    rw [if_pos rfl] at hw ⊢
    exact q true s1 F1 H1 hw a1
  | false =>
    rw [if_neg Bool.false_ne_true] at hw ⊢
    exact sb δ F1 H1 σ ρ s1 W (R.aft st a1) a1.st hw Q fun b s2 F2 H2 hw2 a2 => q b s2 F2 H2 hw2 (a1.trans a2)
theorem PWn.pt {e : Expr} {r : TN G.S} (h : PWn C K G i e r) : PTn C K G i e r := by
  obtain ⟨t, h, s⟩ := h.ex
  exact ⟨t, fun X c => PW.pt (h X c), s⟩
theorem pn_if {c a b : Expr} {rc : TN G.S} {ra rb : EN G.S} {pos : Pos} (hc : PTn C K G i c rc) (ha : PEn C K G i a ra) (hb : PEn C K G i b rb) : PEn C K G i (.IfExp c a b pos) (nIf rc ra rb) := by
  obtain ⟨tc, hc, sc'⟩ := hc.ex
  obtain ⟨ta, ha, sa⟩ := ha.ex
  obtain ⟨tb, hb, sb⟩ := hb.ex
  refine ⟨tIf tc ta tb, fun X c => pe_ifExp (hc X c) (ha X c) (hb X c), fun δ F H σ ρ s W R st hr Q q => sc' δ F H σ ρ s _ R st hr _ fun b s1 F1 H1 hw a1 => ?_⟩
  cases b with
  | true =>
    rw [if_pos rfl] at hw ⊢
    exact sa δ F1 H1 σ ρ s1 W (R.aft st a1) a1.st hw Q fun v d s2 F2 H2 hw2 a2 => q v d s2 F2 H2 hw2 (a1.trans a2)
  | false =>
    rw [if_neg Bool.false_ne_true] at hw ⊢
    exact sb δ F1 H1 σ ρ s1 W (R.aft st a1) a1.st hw Q fun v d s2 F2 H2 hw2 a2 => q v d s2 F2 H2 hw2 (a1.trans a2)
theorem pan_nil : PAn C K G i [] nNil := ⟨tNil, fun _ _ => pa_nil, fun δ F H σ ρ s W R st hr Q q => q [] [] s F H hr (Aft.refl R.r.ex st) .nil⟩
theorem pan_cons {e : Expr} {es : List Expr} {a : EN G.S} {t : AN G.S} (ha : PEn C K G i e a) (ht : PAn C K G i es t) (hs : ∀ env, starEach (e :: es) env = (false, eval e env) :: starEach es env := by intro _; rfl) : PAn C K G i (e :: es) (nCons a t) := by
  obtain ⟨ta, ha, sa⟩ := ha.ex
  obtain ⟨tt, ht, sT⟩ := ht.ex
  exact ⟨tCons ta tt, fun X c => pa_cons (ha X c) (ht X c) (hs X.env), fun δ F H σ ρ s W R st hr Q q => sa δ F H σ ρ s _ R st hr _ fun v d s1 F1 H1 hw a1 r1 =>
    sT δ F1 H1 σ ρ s1 _ (R.aft st a1) a1.st hw _ fun vs ds s2 F2 H2 hw2 a2 r2 => q (v :: vs) (d :: ds) s2 F2 H2 hw2 (a1.trans a2) (.cons (Rp.mono a2.gr.1 _ _ r1) r2)⟩
theorem pn_tup {es : List Expr} {x1} {t : AN G.S} {pos : Pos} (h : PAn C K G i es t) : PEn C K G i (.Tuple es x1 pos) (nA mkTup t) := by
  obtain ⟨ta, ha, sa⟩ := h.ex
  refine ⟨tTup ta, fun X c => pe_tup (ha X c), fun δ F H σ ρ s W R st hr Q q => sa δ F H σ ρ s _ R st hr _ fun vs ds s1 F1 H1 hw a1 r1 => ?_⟩
  obtain ⟨d, e2, hw⟩ := hw
  unfold mkTup at e2
  split at e2
  · rename_i hl
    cases e2
    exact ⟨by rw [r1.length, sizeLine_eq]; exact hl, fun p hp => q _ _ s1 (upd F1 p (.tup vs)) _ hw (a1.trans (Aft.pure a1.st (same_upd hp) (gr_upd a1.ex hp) (same_updB a1.ex))) (.tup (.inl (.inl upd_same)) (RpAll.mono (same_upd (a1.ex.free hp)) _ _ r1))⟩
  · cases e2
theorem pn_lst {es : List Expr} {t : AN G.S} {pos : Pos} (h : PAn C K G i es t) : PEn C K G i (.List es pos) (nA mkLst t) := by
  obtain ⟨ta, ha, sa⟩ := h.ex
  refine ⟨tLst ta, fun X c => pe_lst (ha X c), fun δ F H σ ρ s W R st hr Q q => sa δ F H σ ρ s _ R st hr _ fun vs ds s1 F1 H1 hw a1 r1 => ?_⟩
  obtain ⟨d, e2, hw⟩ := hw
  unfold mkLst at e2
  split at e2
  · rename_i hl
    cases e2
    exact ⟨by rw [r1.length, sizeLine_eq]; exact hl, fun p hp => q _ _ s1 (upd F1 p (.lst vs)) _ hw (a1.trans (Aft.pure a1.st (same_upd hp) (gr_upd a1.ex hp) (same_updB a1.ex))) (.lst upd_same (RpAll.mono (same_upd (a1.ex.free hp)) _ _ r1))⟩
  · cases e2
theorem pn_ix {r : R2} {f : PyData → PyData → Option PyData} {a b : Expr} {ra rb : EN G.S} {pos : Pos} (hr : ∀ X, C X → IxR X r) (hf : Op2 K r f) (ha : PEn C K G i a ra) (hb : PEn C K G i b rb) (hs : PlainIx b := by exact fun _ _ => rfl) : PEn C K G i (.Subscript a b pos) (nE2 f ra rb) := by
  obtain ⟨ta, ha, sa⟩ := ha.ex
  obtain ⟨tb, hb, sb⟩ := hb.ex
  exact ⟨tOp r ta tb, fun X c => pe_ix (hr X c) (ha X c) (hb X c) hs, snd_r2 hf sa sb⟩
theorem snd_rc {t : TA} {ra : AN G.S} {r : List V → Hp → VK → Prop} {f : List PyData → Option PyData} (hf : OpC K r f) (sa : SndA G i K t ra) : SndE G i K (tCB r t) (nA f ra) := fun δ F H σ ρ s W R st hr Q q =>
  sa δ F H σ ρ s _ R st hr _ fun vs ds s1 F1 H1 hw a1 r1 => by
    obtain ⟨d, e, hw⟩ := hw
    exact hf F1 H1 vs ds d a1.ex r1 e Q fun z F3 H3 s3 g3 f3 r3 => q z d s1 F3 H3 hw (a1.trans (Aft.pure a1.st s3 g3 f3)) r3
theorem pn_cb {id : String} {r : List V → Hp → VK → Prop} {f : List PyData → Option PyData} {x : Str} {e : Expr} {es : List Expr} {t : AN G.S} {p pos : Pos} (Z : Fam C P w K mg base N sc k top) (hc : ∀ X, C X → CallR X (.builtin id) r) (hf : OpC K r f)
    (hm : mg x = none) (hv : bootBuiltins x = some (.builtin id)) (ha : PAn C K G i (e :: es) t) (h : okG sc x = true) (he : ∀ env, starEach (e :: es) env = (false, eval e env) :: starEach es env := by intro _; rfl)
    (hpl : ∀ env, (backTo pos (starEach es env)).any (·.1) = false := by intro _; rfl) : PEn C K G i (.Call (.Name x p) (e :: es) [] pos) (nA f t) := by
  unfold okG at h
  simp only [Bool.and_eq_true] at h
  obtain ⟨ta, ha, sa⟩ := ha.ex
  exact ⟨tCB r ta, fun X c => pe_callB (hc X c) (Z.gl h.1 c) (by rw [Z.mg_ X c]; exact hm) hv (ha X c) (plainN_n h.2) (plainN_d h.2) (he X.env) (hpl X.env), snd_rc hf sa⟩
theorem pn_ct {T : String} {r : List V → Hp → VK → Prop} {f : List PyData → Option PyData} {x : Str} {e : Expr} {es : List Expr} {t : AN G.S} {p pos : Pos} (Z : Fam C P w K mg base N sc k top) (hc : ∀ X, C X → CallR X (.type T) r) (hf : OpC K r f)
    (hm : mg x = none) (hv : bootBuiltins x = some (.type T)) (ha : PAn C K G i (e :: es) t) (h : okG sc x = true) (he : ∀ env, starEach (e :: es) env = (false, eval e env) :: starEach es env := by intro _; rfl)
    (hpl : ∀ env, (backTo pos (starEach es env)).any (·.1) = false := by intro _; rfl) : PEn C K G i (.Call (.Name x p) (e :: es) [] pos) (nA f t) := by
  unfold okG at h
  simp only [Bool.and_eq_true] at h
  obtain ⟨ta, ha, sa⟩ := ha.ex
  exact ⟨tCB r ta, fun X c => pe_callTy (hc X c) (Z.gl h.1 c) (by rw [Z.mg_ X c]; exact hm) hv (ha X c) (plainN_n h.2) (plainN_d h.2) (he X.env) (hpl X.env), snd_rc hf sa⟩
/-- the value that names the region -/
theorem pe_lk (Z : Fam C P w K mg base N sc k top) {x : Str} {pos : Pos} (h : okV N sc i x = true) {X : Cx} (c : C X) : PE X (.Name x pos) (tVar i) := pe_ow Z h c

/-! ### defs over a region -/
abbrev MN (S : Type) := List PyData → S → (PyData → S → Prop) → Prop
/-- what such a def promises: the region first, then data -/
def spN (G : Reg) (K : PySem.W.Frag) (n : Nat) (m : MN G.S) : Sp := fun vs H Q _ => ∃ δ F ds s vs' W, vs = G.lk δ :: vs' ∧ ds.length = n ∧ Same F H ∧ (∀ a, G.D δ a → F a = none) ∧ RpAll K F vs' ds ∧ G.St δ s H ∧ m ds s W ∧ ∀ v d s' F' H', W d s' → Aft G δ F H s' F' H' → Rp K F' v d → Q v H'
structure CalN (P : Program) (w : World) (K : PySem.W.Frag) (mg : Str → Option Value) (base : Heap) (G : Reg) (j : Nat) (x : Str) (n : Nat) (m : MN G.S) : Prop where
  ex : ∃ f fd ps, mg x = some (.ref f) ∧ PySem.W.keepIn K (.ref f) = true ∧ ps.length = n + 1 ∧ FnOk P w K mg base CX0 j f fd ps (spN G K n m) ∧ Binds K fd ps []
def nCall {S : Type} (n : Nat) (m : MN S) (a : AN S) : EN S := fun ρ s W => a ρ s fun ds s1 => ds.length = n ∧ m ds s1 W
/-- f(region, e, ..) -/
theorem pn_call {j : Nat} {x y : Str} {n : Nat} {m : MN G.S} {es : List Expr} {t : AN G.S} {p px pos : Pos} (Z : Fam C P w K mg base N sc k top) (c : CalN P w K mg base G j x n m) (hj : j ≤ k) (ha : PAn C K G i es t) (hy : okV N sc i y = true) (h : okG sc x = true)
    (he : ∀ env, starEach (.Name y px :: es) env = (false, eval (.Name y px) env) :: starEach es env := by intro _; rfl) (hpl : ∀ env, (backTo pos (starEach es env)).any (·.1) = false := by intro _; rfl) : PEn C K G i (.Call (.Name x p) (.Name y px :: es) [] pos) (nCall n m t) := by
  unfold okG at h
  simp only [Bool.and_eq_true] at h
  obtain ⟨f, fd, ps, hm, kp, hn, Gf, b⟩ := c.ex
  obtain ⟨ta, ha, sa⟩ := ha.ex
  refine ⟨tCall (spN G K n m) [] E0 (tCons (tVar i) ta), fun X c => ?_, fun δ F H σ ρ s W R st hr Q q => ?_⟩
  · have e1 := Z.prog X c
    have e2 := Z.wo X c
    have e3 := Z.K_ X c
    have e4 := Z.mg_ X c
    have e5 := Z.base_ X c
    exact pe_call (F := by rw [e1, e2, e3, e4, e5]; exact Gf) ((Z.room X c).mono hj) (Z.gl h.1 c) (by rw [e4]; exact hm) (by rw [e3]; exact kp) (by rw [e3]; exact b) .nil pass0 (pa_cons (pe_lk Z hy c) (ha X c) (he X.env)) (plainN_d h.2) (he X.env) (hpl X.env)
  · refine ⟨G.lk δ, R.lk, sa δ F H σ ρ s _ R st hr _ fun vs ds s1 F1 H1 hw a1 r1 => ?_⟩
    obtain ⟨hl, hw⟩ := hw
    exact ⟨δ, F1, ds, s1, vs, W, by rw [List.append_nil], hl, a1.ex, (R.aft st a1).av, r1, a1.st, hw, fun v d s2 F2 H2 hw2 a2 r2 => q v d s2 F2 H2 hw2 (a1.trans a2) r2⟩
end
end Pd

set_option maxHeartbeats 2000000
/-! Pd13: a region: statements, loops, comprehensions, defs. -/
namespace Pd
open PySem PySem.Spec PyProof.Rows L2

structure RelSN (G : Reg) (δ : G.Δ) (i : Nat) (K : PySem.W.Frag) (F0 B F H : Hp) (σ : L2.St) (ρ : Sl) : Prop where
  n : RelN G δ i K F H σ ρ
  sb : Same B H
  gr : Gr F0 F B
  own : ∀ (j : Nat) (ds : List PyData) (a : Addr), ρ[j]? = some (some (.ow ds)) → σ[j]? = some (some (.ref a)) → B a = none
  avB : ∀ a, G.D δ a → B a = none
section
variable {G : Reg} {δ : G.Δ} {i : Nat} {K : PySem.W.Frag} {F0 B F F' H H' : Hp} {σ : L2.St} {ρ : Sl} {s s' : G.S}
theorem RelSN.rs (R : RelSN G δ i K F0 B F H σ ρ) : RelS K F0 B F H σ ρ := ⟨R.n.r, R.sb, R.gr, R.own⟩
theorem RelSN.aft (R : RelSN G δ i K F0 B F H σ ρ) (st : G.St δ s H) (a : Aft G δ F H s' F' H') : RelSN G δ i K F0 B F' H' σ ρ := by
  refine ⟨R.n.aft st a, fun x o h => a.sx x o (fun d => ?_) (R.sb x o h), ⟨R.gr.1.trans a.gr.1, fun x o h => ?_⟩, R.own, R.avB⟩
  · rw [R.avB x d] at h; cases h
  · rcases a.gr.2 x o h with z | z
    · exact R.gr.2 x o z
    · exact .inr (R.sb.free z)
theorem RelSN.of (R : RelSN G δ i K F0 B F H σ ρ) {σ' : L2.St} {ρ' : Sl} {H' : Hp} (h : RelS K F0 B F H' σ' ρ') (hk : σ'[i]? = some (some (G.lk δ))) (hh : ρ'[i]? = some none)
    (ow : ∀ (j : Nat) (ds : List PyData) (a : Addr), ρ'[j]? = some (some (.ow ds)) → σ'[j]? = some (some (.ref a)) → ¬ G.D δ a) : RelSN G δ i K F0 B F H' σ' ρ' :=
  ⟨⟨h.r, R.n.av, ow, hk, hh⟩, h.sb, h.gr, h.own, R.avB⟩
theorem RelSN.set (R : RelSN G δ i K F0 B F H σ ρ) {j : Nat} {v : V} {d : PyData} (hj : j ≠ i) (h : Rp K F v d) : RelSN G δ i K F0 B F H (σ.set j (some v)) (ρ.set j (some (.vl d))) :=
  R.of (R.rs.set h) (by rw [List.getElem?_set_ne hj]; exact R.n.lk) (by rw [List.getElem?_set_ne hj]; exact R.n.hid) fun j' ds a e1 e2 => by
    rcases set_none_of e1 with ⟨_, z⟩ | ⟨ne, z⟩
    · cases z
    · rw [List.getElem?_set_ne ne] at e2
      exact R.n.ow j' ds a z e2
theorem RelSN.sets {m : List (Nat × V)} {l : List (Nat × PyData)} (b : BindV K F m l) : ∀ {σ : L2.St} {ρ : Sl}, (∀ p ∈ l, p.1 ≠ i) → RelSN G δ i K F0 B F H σ ρ → RelSN G δ i K F0 B F H (setV σ m) (setD ρ l) := by
  induction b with
  | nil => intro σ ρ _ R; exact R
  | cons r b ih => intro σ ρ hn R; exact ih (fun p hp => hn p (List.mem_cons_of_mem _ hp)) (R.set (hn _ (List.mem_cons_self ..)) r)
theorem RelSN.setOw (R : RelSN G δ i K F0 B F H σ ρ) (st : G.St δ s H) {j : Nat} {p : Addr} {vs : List V} {ds : List PyData} (hj : j ≠ i) (hp : H p = none) (h : RpAll K F vs ds) : RelSN G δ i K F0 B F (upd H p (.lst vs)) (σ.set j (some (.ref p))) (ρ.set j (some (.ow ds))) :=
  R.of (R.rs.setOw hp h) (by rw [List.getElem?_set_ne hj]; exact R.n.lk) (by rw [List.getElem?_set_ne hj]; exact R.n.hid) fun j' ds' a e1 e2 => by
    rcases set_none_of e1 with ⟨q, z⟩ | ⟨ne, z⟩
    · rcases set_none_of e2 with ⟨_, y⟩ | ⟨ne, _⟩
      · cases y
        exact fun d => G.occ δ s H p st d hp
      · exact absurd q ne
    · rw [List.getElem?_set_ne ne] at e2
      exact R.n.ow j' ds' a z e2
theorem RelSN.mutOw (R : RelSN G δ i K F0 B F H σ ρ) {j : Nat} {a : Addr} {ds es : List PyData} {us : List V} (e1 : ρ[j]? = some (some (.ow ds))) (e2 : σ[j]? = some (some (.ref a))) (h : RpAll K F us es) : RelSN G δ i K F0 B F (upd H a (.lst us)) σ (ρ.set j (some (.ow es))) := by
  have hj : j ≠ i := fun q => by subst q; rw [R.n.hid] at e1; cases e1
  refine R.of (R.rs.mutOw e1 e2 h) R.n.lk (by rw [List.getElem?_set_ne hj]; exact R.n.hid) fun j' ds' b q1 q2 => ?_
  rcases set_none_of q1 with ⟨q, _⟩ | ⟨_, z⟩
  · subst q
    exact R.n.ow j ds b e1 q2
  · exact R.n.ow j' ds' b z q2
theorem st_updOw (R : RelSN G δ i K F0 B F H σ ρ) (st : G.St δ s H) {j : Nat} {a : Addr} {ds : List PyData} {o : HO} (e1 : ρ[j]? = some (some (.ow ds))) (e2 : σ[j]? = some (some (.ref a))) : G.St δ s (upd H a o) :=
  G.frame δ s H _ st fun b d => by
    have : b ≠ a := fun q => by subst q; exact R.n.ow j ds b e1 e2 d
    rw [upd_ne this]
end
abbrev BN (S : Type) := Sl → S → (Fl → S → Prop) → Prop
def GoesN (G : Reg) (δ : G.Δ) (i : Nat) (K : PySem.W.Frag) (F0 B : Hp) (D : Ends) (s : G.S) : Fl → Prop
  | .nx ρ => ∀ σ F H, RelSN G δ i K F0 B F H σ ρ → G.St δ s H → D.nx σ H
  | .rt d => ∀ v F H, Same B H → Gr F0 F B → Same F H → (∀ a, G.D δ a → F a = none) → G.St δ s H → Rp K F v d → D.rt v H
  | .bk ρ => ∀ σ F H, RelSN G δ i K F0 B F H σ ρ → G.St δ s H → D.bk σ H
  | .ct ρ => ∀ σ F H, RelSN G δ i K F0 B F H σ ρ → G.St δ s H → D.ct σ H
def SndS2 (G : Reg) (i : Nat) (K : PySem.W.Frag) (t : TS) (r : BN G.S) : Prop := ∀ δ F0 B F H σ ρ s W D, RelSN G δ i K F0 B F H σ ρ → G.St δ s H → r ρ s W → (∀ fl s', W fl s' → GoesN G δ i K F0 B D s' fl) → t D σ H
structure PSn (C : Cx → Prop) (K : PySem.W.Frag) (G : Reg) (i : Nat) (st : Stmt) (r : BN G.S) : Prop where
  ex : ∃ t, (∀ X, C X → PS X st t) ∧ SndS2 G i K t r
structure PSsn (C : Cx → Prop) (K : PySem.W.Frag) (G : Reg) (i : Nat) (sts : List Stmt) (r : BN G.S) : Prop where
  ex : ∃ t, (∀ X, C X → PSs X sts t) ∧ SndS2 G i K t r
section
variable {S : Type}
def nNext : BN S := fun ρ s W => W (.nx ρ) s
def nSeq (a b : BN S) : BN S := fun ρ s W => a ρ s fun fl s1 => match fl with
  | .nx ρ1 => b ρ1 s1 W
  | f => W f s1
def nRet (r : EN S) : BN S := fun ρ s W => r ρ s fun d s1 => W (.rt d) s1
def nAsg (g : TgD) (r : EN S) : BN S := fun ρ s W => r ρ s fun d s1 => ∃ l, g d = some l ∧ W (.nx (setD ρ l)) s1
def nDrop (r : EN S) : BN S := fun ρ s W => r ρ s fun _ s1 => W (.nx ρ) s1
def nIfS (t : TN S) (a b : BN S) : BN S := fun ρ s W => t ρ s fun k s1 => if k then a ρ s1 W else b ρ s1 W
def nNever : BN S := fun _ _ _ => False
def nOw (j : Nat) (a : AN S) : BN S := fun ρ s W => a ρ s fun ds s1 => ds.length ≤ 16777216 ∧ W (.nx (ρ.set j (some (.ow ds)))) s1
def nApp (j : Nat) (r : EN S) : BN S := fun ρ s W => ∃ ds, owAt j ρ = some ds ∧ r ρ s fun d s1 => ds.length < 16777216 ∧ W (.nx (ρ.set j (some (.ow (ds ++ [d]))))) s1
def nParS (i j : Nat) (a : AN S) : BN S := fun ρ s W => a ρ s fun ds s1 => ∃ x y, ds = [x, y] ∧ W (.nx ((ρ.set i (some (.vl x))).set j (some (.vl y)))) s1
end
section
variable {C : Cx → Prop} {P : Program} {w : World} {K : PySem.W.Frag} {mg : Str → Option Value} {base : Heap} {N : List Str} {sc : Scope} {k : Nat} {top : Bool} {G : Reg} {i : Nat}
theorem psn_nil : PSsn C K G i [] nNext := ⟨tNext, fun _ _ => pss_nil, fun δ F0 B F H σ ρ s W D R st hr q => q _ s hr σ F H R st⟩
theorem snd2_seq {t u : TS} {a b : BN G.S} (ha : SndS2 G i K t a) (hb : SndS2 G i K u b) : SndS2 G i K (tSeq t u) (nSeq a b) := fun δ F0 B F H σ ρ s W D R st hr q => by
  refine ha δ F0 B F H σ ρ s _ _ R st hr fun fl s1 hw => ?_
  cases fl with
  | nx ρ1 => exact fun σ1 F1 H1 R1 st1 => hb δ F0 B F1 H1 σ1 ρ1 s1 W D R1 st1 hw q
  | rt d => exact q _ s1 hw
  | bk ρ1 => exact q _ s1 hw
  | ct ρ1 => exact q _ s1 hw
theorem psn_cons {st : Stmt} {rest : List Stmt} {a b : BN G.S} (ha : PSn C K G i st a) (hb : PSsn C K G i rest b) : PSsn C K G i (st :: rest) (nSeq a b) := by
  obtain ⟨t, ha, sa⟩ := ha.ex
  obtain ⟨u, hb, sb⟩ := hb.ex
  exact ⟨tSeq t u, fun X c => pss_cons (ha X c) (hb X c), snd2_seq sa sb⟩
theorem psn_one {st : Stmt} {a : BN G.S} (ha : PSn C K G i st a) : PSsn C K G i [st] a := by
  obtain ⟨t, ha, sa⟩ := ha.ex
  exact ⟨t, fun X c => pss_one (ha X c), sa⟩
theorem psn_never {st : Stmt} : PSn C K G i st nNever := ⟨tNever, fun _ _ => ps_never, fun δ F0 B F H σ ρ s W D R st hr q => hr.elim⟩
theorem psn_ret {e : Expr} {r : EN G.S} {pos : Pos} (h : PEn C K G i e r) : PSn C K G i (.Return (some e) pos) (nRet r) := by
  obtain ⟨t, h, sd⟩ := h.ex
  exact ⟨tRet t, fun X c => ps_ret (h X c), fun δ F0 B F H σ ρ s W D R st hr q => sd δ F H σ ρ s _ R.n st hr _ fun v d s1 F1 H1 hw a1 r1 =>
    let R1 := R.aft st a1; q _ s1 hw v F1 H1 R1.sb R1.gr a1.ex R1.n.av a1.st r1⟩
theorem psn_expr {e : Expr} {r : EN G.S} {pos : Pos} (h : PEn C K G i e r) (hs : ∀ env, swapsWith e none pos.line env = pure false := by intro _; rfl) : PSn C K G i (.Expr e pos) (nDrop r) := by
  obtain ⟨t, h, sd⟩ := h.ex
  exact ⟨tDrop t, fun X c => ps_expr (h X c) (hs X.env), fun δ F0 B F H σ ρ s W D R st hr q => sd δ F H σ ρ s _ R.n st hr _ fun v d s1 F1 H1 hw a1 r1 => q _ s1 hw σ F1 H1 (R.aft st a1) a1.st⟩
/-- the target's slots are none of the region's -/
def offI (i : Nat) (g : TgD) : Prop := ∀ d l, g d = some l → ∀ p ∈ l, p.1 ≠ i
theorem offI_n {j : Nat} (h : j ≠ i) : offI i (gN j) := fun d l e p hp => by cases e; simp at hp; subst hp; exact h
theorem offI_of {g : TgD} {is : List Nat} (h : TgAt g is) (hi : (is.all fun j => decide (j ≠ i)) = true) : offI i g := fun d l e p hp => by
  have := h d l e p.1 (List.mem_map_of_mem hp)
  exact of_decide_eq_true (List.all_eq_true.mp hi _ this)
theorem psn_asg {tg e : Expr} {g : TgD} {r : EN G.S} {pos : Pos} (ho : offI i g) (hg : PGd C K tg g) (h : PEn C K G i e r) (hs : ∀ env, swapsWithSole [tg] e pos.line env = pure false := by intro _; rfl) (hw : ∀ env, swappedStores [tg] e env = pure none := by intro _; rfl)
    (h1 : ∀ env, (assignEach [tg] env).map (·.2) = [assign tg env] := by intro _; rfl) : PSn C K G i (.Assign [tg] e pos) (nAsg g r) := by
  obtain ⟨t, h, sd⟩ := h.ex
  obtain ⟨gx, hg, sg⟩ := hg.ex
  refine ⟨tAsg t gx, fun X c => ps_asg (h X c) (hg X c) (hs X.env) (hw X.env) (h1 X.env), fun δ F0 B F H σ ρ s W D R st hr q => sd δ F H σ ρ s _ R.n st hr _ fun v d s1 F1 H1 hw a1 r1 => ?_⟩
  obtain ⟨l, e, hw⟩ := hw
  exact sg F1 H1 σ v d l a1.ex r1 e _ fun m bm => q _ s1 hw _ F1 H1 (RelSN.sets bm (ho d l e) (R.aft st a1)) a1.st
theorem psn_set (Z : Fam C P w K mg base N sc k top) (j : Nat) {x : Str} {e : Expr} {r : EN G.S} {pos pos' : Pos} (hj : j ≠ i) (h : PEn C K G i e r) (ho : okS N sc top j x = true) (hs : ∀ env, swapsWith e (some (.Name x pos')) pos.line env = pure false := by intro _; rfl) :
    PSn C K G i (.Assign [.Name x pos'] e pos) (nAsg (gN j) r) := by
  obtain ⟨t, h, sd⟩ := h.ex
  refine ⟨tAsg t (gName j), fun X c => let z := okS_ok Z ho c; ps_set (Z.ndX c) z.1 z.2.1 (h X c) (hs X.env) z.2.2, fun δ F0 B F H σ ρ s W D R st hr q => sd δ F H σ ρ s _ R.n st hr _ fun v d s1 F1 H1 hw a1 r1 => ?_⟩
  obtain ⟨l, e, hw⟩ := hw
  cases e
  exact q _ s1 hw _ F1 H1 ((R.aft st a1).set hj r1) a1.st
theorem psn_if {c : Expr} {a b : List Stmt} {rc : TN G.S} {ra rb : BN G.S} {pos : Pos} (hc : PTn C K G i c rc) (ha : PSsn C K G i a ra) (hb : PSsn C K G i b rb) : PSn C K G i (.If c a b pos) (nIfS rc ra rb) := by
  obtain ⟨tc, hc, sc'⟩ := hc.ex
  obtain ⟨ta, ha, sa⟩ := ha.ex
  obtain ⟨tb, hb, sb⟩ := hb.ex
  refine ⟨tIfS tc ta tb, fun X c => ps_if (hc X c) (ha X c) (hb X c), fun δ F0 B F H σ ρ s W D R st hr q => sc' δ F H σ ρ s _ R.n st hr _ fun b s1 F1 H1 hw a1 => ?_⟩
  cases b with
  | true =>
    rw [if_pos rfl] at hw ⊢
    exact sa δ F0 B F1 H1 σ ρ s1 W D (R.aft st a1) a1.st hw q
  | false =>
    rw [if_neg Bool.false_ne_true] at hw ⊢
    exact sb δ F0 B F1 H1 σ ρ s1 W D (R.aft st a1) a1.st hw q
theorem psn_ow (Z : Fam C P w K mg base N sc k top) (j : Nat) {x : Str} {es : List Expr} {a : AN G.S} {p pos pos' : Pos} (hj : j ≠ i) (h : okS N sc top j x = true) (ha : PAn C K G i es a) (hs : ∀ env, swapsWith (.List es p) (some (.Name x pos')) pos.line env = pure false := by intro _; rfl) :
    PSn C K G i (.Assign [.Name x pos'] (.List es p) pos) (nOw j a) := by
  obtain ⟨ta, ha, sa⟩ := ha.ex
  refine ⟨tAsg (tLst ta) (gName j), fun X c => let z := okS_ok Z h c; ps_set (Z.ndX c) z.1 z.2.1 (pe_lst (ha X c)) (hs X.env) z.2.2, fun δ F0 B F H σ ρ s W D R st hr q => sa δ F H σ ρ s _ R.n st hr _ fun vs ds s1 F1 H1 hw a1 r1 => ?_⟩
  exact ⟨by rw [r1.length, sizeLine_eq]; exact hw.1, fun p hp => q _ s1 hw.2 _ F1 _ ((R.aft st a1).setOw a1.st hj hp r1) (St.same (same_upd hp) a1.st)⟩
theorem psn_append (Z : Fam C P w K mg base N sc k top) (j : Nat) {x : Str} {e : Expr} {r : EN G.S} {px apos cpos pos : Pos} (h : okV N sc j x = true) (he : PEn C K G i e r) (hj : ∀ env, attributeBase (.Name x px) "append" env (eval (.Name x px) env) = eval (.Name x px) env := by intro _; rfl)
    (h2 : ∀ env, (((((backTo cpos (starEach (e :: []) env)).all fun x => !x.fst) && (backToKw cpos (keywordEach [] env)).all fun x => x.fst.isSome) && decide (((e :: []).length + ([] : List Keyword).length + if ([] : List Keyword).isEmpty = true then 0 else 1) < 30)) = true) := by intro _; rfl)
    (h3 : (apos.endLine == cpos.line) = true := by rfl) (h4 : ∀ env, starEach (e :: []) env = (false, eval e env) :: starEach [] env := by intro _; rfl)
    (hs : ∀ env, swapsWith (.Call (.Attribute (.Name x px) "append" apos) [e] [] cpos) none pos.line env = pure false := by intro _; rfl) :
    PSn C K G i (.Expr (.Call (.Attribute (.Name x px) "append" apos) [e] [] cpos) pos) (nApp j r) := by
  obtain ⟨te, he, se⟩ := he.ex
  refine ⟨tDrop (tBM K "list" rAppend (tVar j) (tCons te tNil)), fun X c => ?_, fun δ F0 B F H σ ρ s W D R st hr q => ?_⟩
  · have := pe_bm (apos := apos) (cpos := cpos) PySem.F.plainAttrs_list PySem.F.slot_list_append PySem.F.type_list_append (mt_append (X := X)) (pe_ow (pos := px) Z h c) (pa_cons (he X c) pa_nil (h4 X.env)) (hj X.env) (h2 X.env) h3 (h4 X.env) rfl
    rw [Z.K_ X c] at this
    exact ps_expr this (hs X.env)
  · obtain ⟨ds, e2, hr⟩ := hr
    obtain ⟨a, vs, h1, h2, h3, h4⟩ := R.n.r.own e2
    have nd := R.n.ow j ds a (owAt_ok e2) h1
    refine ⟨.ref a, h1, .inl ⟨rfl, vs, .inl (.inl h2)⟩, se δ F H σ ρ s _ R.n st hr _ fun v d s1 F1 H1 hw a1 r1 => ?_⟩
    obtain ⟨hl, hw⟩ := hw
    have R1 := R.aft st a1
    exact ⟨a, vs, v, rfl, rfl, a1.sx _ _ nd h2, by rw [h4.length, sizeLine_eq]; exact hl, q _ s1 hw _ F1 _ (R1.mutOw (owAt_ok e2) h1 ((RpAll.mono a1.gr.1 _ _ h4).append (.cons r1 .nil))) (st_updOw R1 a1.st (owAt_ok e2) h1)⟩

/-! ### walked things -/
structure PIn (C : Cx → Prop) (K : PySem.W.Frag) (G : Reg) (i : Nat) (tg iter : Expr) (r : AN G.S) : Prop where
  ex : ∃ wi, (∀ X, C X → PI X tg iter wi) ∧ ∀ δ F H σ ρ s W, RelN G δ i K F H σ ρ → G.St δ s H → r ρ s W → ∀ R : It → Hp → Prop, (∀ J ds s1 F1 H1, W ds s1 → Aft G δ F H s1 F1 H1 → Walk K J F1 ds → R J H1) → wi σ H R
theorem pin_lift {tg iter : Expr} {r : A1} (h : PId C K tg iter r) : PIn C K G i tg iter (nAL r) := by
  obtain ⟨wi, h, sd⟩ := h.ex
  refine ⟨wi, h, fun δ F H σ ρ s W R st hr Q q => ?_⟩
  obtain ⟨ds, e, hw⟩ := hr
  exact sd F H σ ρ ds R.r e Q fun J F1 H1 s1 g1 f1 wk => q J ds s F1 H1 hw (Aft.pure st s1 g1 f1) wk
def upTo (n : Nat) : List PyData := (List.range n).map fun k : Nat => .int (k : Int)
theorem upTo_len (n : Nat) : (upTo n).length = n := by simp [upTo]
theorem upTo_get {n j : Nat} {d : PyData} (h : (upTo n)[j]? = some d) : j < n ∧ d = .int (j : Int) := by
  unfold upTo at h
  rw [List.getElem?_map] at h
  by_cases q : j < n
  · rw [List.getElem?_range q] at h
    cases h
    exact ⟨q, rfl⟩
  · rw [List.getElem?_eq_none (by simpa using q)] at h
    cases h
theorem walk_range {F : Hp} (n : Nat) : Walk K (Itr 0 n) F (upTo n) where
  stop := fun j H s hl => by rw [upTo_len] at hl; exact hl
  go := fun j H d s hd => (upTo_get hd).1
  yld := fun j Fi H d x H' s1 s2 hd hy => by
    obtain ⟨rfl, rfl⟩ := hy
    obtain ⟨_, rfl⟩ := upTo_get hd
    refine ⟨Same.refl _, Fi, Gr.refl _ _, s2, ?_⟩
    rw [Int.zero_add]
    exact .int _
def nRange {S : Type} (a : EN S) : AN S := fun ρ s W => a ρ s fun d s1 => ∃ n : Int, d = .int n ∧ n < 1000000000 ∧ -1000000000 < n ∧ W (upTo n.toNat) s1
theorem pin_range (Z : Fam C P w K mg base N sc k top) {tg e : Expr} {a : EN G.S} {p pos : Pos} (hm : mg "range" = none) (h : PEn C K G i e a) (hg : okG sc "range" = true) (he : ∀ env, starEach [e] env = [(false, eval e env)] := by intro _; rfl) : PIn C K G i tg (.Call (.Name "range" p) [e] [] pos) (nRange a) := by
  unfold okG at hg
  simp only [Bool.and_eq_true] at hg
  obtain ⟨te, h, sd⟩ := h.ex
  refine ⟨iRng1 (tCons te tNil), fun X c => pi_range1 (Z.gl hg.1 c) (by rw [Z.mg_ X c]; exact hm) (pa_cons (h X c) pa_nil (he X.env)) (he X.env), fun δ F H σ ρ s W R st hr Q q => sd δ F H σ ρ s _ R st hr _ fun v d s1 F1 H1 hw a1 r1 => ?_⟩
  obtain ⟨n, rfl, h1, h2, hw⟩ := hw
  exact ⟨n, by rw [rp_int r1], by omega, by omega, q _ _ s1 F1 H1 hw a1 (walk_range n.toNat)⟩
theorem pin_tup (Z : Fam C P w K mg base N sc k top) {tg l : Expr} {a : E1} (h : PEd C K l a) : PIn C K G i tg l (nAL (aTup a)) := pin_lift (pid_tup Z h)
theorem pin_list (Z : Fam C P w K mg base N sc k top) {tg l : Expr} {a : E1} (h : PEd C K l a) : PIn C K G i tg l (nAL (aList a)) := pin_lift (pid_list Z h)
/-! ### for -/
def forN {S : Type} (g : TgD) (b : BN S) : List PyData → BN S
  | [], ρ, s, W => W (.nx ρ) s
  | d :: r, ρ, s, W => ∃ l, g d = some l ∧ b (setD ρ l) s fun fl s1 => match fl with
    | .nx ρ' => forN g b r ρ' s1 W
    | .ct ρ' => forN g b r ρ' s1 W
    | .bk ρ' => W (.nx ρ') s1
    | .rt d => W (.rt d) s1
def nFor {S : Type} (src : AN S) (g : TgD) (b : BN S) : BN S := fun ρ s W => src ρ s fun ds s1 => forN g b ds ρ s1 W
theorem RelSN.rebase {δ : G.Δ} {F0 B F H : Hp} {σ : L2.St} {ρ : Sl} (R : RelSN G δ i K F0 B F H σ ρ) : RelSN G δ i K F B F H σ ρ := ⟨R.n, R.sb, Gr.refl _ _, R.own, R.avB⟩
theorem psn_for (Z : Fam C P w K mg base N sc k top) {tg iter : Expr} {body : List Stmt} {src : AN G.S} {g : TgD} {b : BN G.S} {pos : Pos} (ho : offI i g) (hi : PIn C K G i tg iter src) (hg : PGd C K tg g) (hb : PSsn C K G i body b)
    (hs : ∀ env x, foldedSetIterable iter env x = pure x := by intro _ _; rfl) : PSn C K G i (.For tg iter body [] pos) (nFor src g b) := by
  obtain ⟨wi, hi, si⟩ := hi.ex
  obtain ⟨gx, hg, sg⟩ := hg.ex
  obtain ⟨tb, hb, sb⟩ := hb.ex
  refine ⟨tFor wi gx tb, fun X c => ps_for (by rw [Z.xe X c]; exact PassesOwn.never) (Z.calm X c) (hi X c) (hg X c) (hb X c) (hs X.env), fun δ F0 B F H σ ρ s W D R st hr q => ?_⟩
  refine si δ F H σ ρ s _ R.n st hr _ fun J ds s1 F1 H1 hw a1 Wk => ?_
  refine ⟨fun j m σ' H' => m = ds.length - j ∧ j ≤ ds.length ∧ ∃ F' ρ' s', Same F1 F' ∧ RelSN G δ i K F0 B F' H' σ' ρ' ∧ G.St δ s' H' ∧ forN g b (ds.drop j) ρ' s' W, ⟨ds.length, by simp, Nat.zero_le _, F1, ρ, s1, Same.refl _, R.aft st a1, a1.st, by simpa using hw⟩, ?_⟩
  rintro j m σ2 H2 ⟨rfl, hj, F2, ρ2, s2, sF, R2, st2, hd⟩
  by_cases hlt : j < ds.length
  · obtain ⟨di, hdi⟩ : ∃ di, ds[j]? = some di := ⟨ds[j], by simp [hlt]⟩
    have hdrop : ds.drop j = di :: ds.drop (j + 1) := by
      have := List.drop_eq_getElem_cons hlt
      rw [List.getElem?_eq_getElem hlt] at hdi
      cases hdi
      exact this
    rw [hdrop] at hd
    unfold forN at hd
    obtain ⟨l, eg, hd⟩ := hd
    refine .inr ⟨Wk.go j H2 di (sF.trans R2.n.r.ex) hdi, fun σ' H' => ∃ F' ρ' s', Same F1 F' ∧ RelSN G δ i K F0 B F' H' σ' ρ' ∧ G.St δ s' H' ∧ forN g b (ds.drop (j + 1)) ρ' s' W, fun σ' H' n => ⟨ds.length - (j + 1), by omega, rfl, hlt, n⟩, fun x H' hy => ?_⟩
    obtain ⟨s3, F3, g3, f3, rx⟩ := Wk.yld j F2 H2 di x H' sF R2.n.r.ex hdi hy
    have a3 : Aft G δ F2 H2 s2 F3 H' := Aft.pure st2 s3 g3 f3
    refine sg F3 H' _ x di l f3 rx eg _ fun mm bm => ?_
    have R3 : RelSN G δ i K F0 B F3 H' (setV σ2 mm) (setD ρ2 l) := RelSN.sets bm (ho di l eg) (R2.aft st2 a3)
    have back : ∀ {σ' F' H'' ρ'}, RelSN G δ i K F3 B F' H'' σ' ρ' → RelSN G δ i K F0 B F' H'' σ' ρ' := fun {σ' F' H'' ρ'} R' => ⟨R'.n, R'.sb, R3.gr.trans (Same.refl B) R'.gr, R'.own, R'.avB⟩
    refine sb δ F3 B F3 H' _ _ s2 _ _ R3.rebase a3.st hd fun fl s4 hw4 => ?_
    cases fl with
    | nx ρ' => exact fun σ' F' H'' R' st' => ⟨F', ρ', s4, (sF.trans g3.1).trans R'.gr.1, back R', st', hw4⟩
    | ct ρ' => exact fun σ' F' H'' R' st' => ⟨F', ρ', s4, (sF.trans g3.1).trans R'.gr.1, back R', st', hw4⟩
    | bk ρ' => exact fun σ' F' H'' R' st' => q _ s4 hw4 σ' F' H'' (back R') st'
    | rt d => exact fun v F' H'' s' g' f' av' st' r' => q _ s4 hw4 v F' H'' s' (R3.gr.trans (Same.refl B) g') f' av' st' r'
  · have ei : j = ds.length := by omega
    subst ei
    rw [List.drop_length] at hd
    unfold forN at hd
    exact .inl ⟨Wk.stop _ H2 (sF.trans R2.n.r.ex) (Nat.le_refl _), q _ s2 hd σ2 F2 H2 R2 st2⟩
/-! ### while, so many turns at most -/
def whN {S : Type} (t : TN S) (b : BN S) : Nat → BN S
  | 0, _, _, _ => False
  | n + 1, ρ, s, W => t ρ s fun k s1 => if k then b ρ s1 fun fl s2 => (match fl with
      | .nx ρ' => whN t b n ρ' s2 W
      | .ct ρ' => whN t b n ρ' s2 W
      | .bk ρ' => W (.nx ρ') s2
      | .rt d => W (.rt d) s2)
    else W (.nx ρ) s1
theorem psn_while (Z : Fam C P w K mg base N sc k top) (n : Nat) {c : Expr} {body : List Stmt} {t : TN G.S} {b : BN G.S} {pos : Pos} (hc : PTn C K G i c t) (hb : PSsn C K G i body b) : PSn C K G i (.While c body [] pos) (whN t b n) := by
  obtain ⟨tt, hc, st⟩ := hc.ex
  obtain ⟨tb, hb, sb⟩ := hb.ex
  refine ⟨tWhile tt tb, fun X c => ps_while (by rw [Z.xe X c]; exact PassesOwn.never) (hc X c) (hb X c), fun δ F0 B F H σ ρ s W D R sT hr q => ?_⟩
  refine ⟨fun m σ' H' => ∃ F' ρ' s', RelSN G δ i K F0 B F' H' σ' ρ' ∧ G.St δ s' H' ∧ whN t b m ρ' s' W, ⟨n, F, ρ, s, R, sT, hr⟩, ?_⟩
  rintro m σ1 H1 ⟨F1, ρ1, s1, R1, st1, e1⟩
  cases m with
  | zero => exact e1.elim
  | succ m =>
    unfold whN at e1
    refine st δ F1 H1 σ1 ρ1 s1 _ R1.n st1 e1 _ fun c s2 F2 H2 hw a2 => ?_
    have R2 := R1.aft st1 a2
    cases c with
    | false =>
      rw [if_neg Bool.false_ne_true] at hw ⊢
      exact q _ s2 hw σ1 F2 H2 R2 a2.st
    | true =>
      rw [if_pos rfl] at hw ⊢
      refine ⟨fun σ' H' => ∃ F' ρ' s', RelSN G δ i K F0 B F' H' σ' ρ' ∧ G.St δ s' H' ∧ whN t b m ρ' s' W, fun σ' H' z => ⟨m, Nat.lt_succ_self m, z⟩, ?_⟩
      refine sb δ F0 B F2 H2 σ1 ρ1 s2 _ _ R2 a2.st hw fun fl s3 hw3 => ?_
      cases fl with
      | nx ρ' => exact fun σ' F' H' R' st' => ⟨F', ρ', s3, R', st', hw3⟩
      | ct ρ' => exact fun σ' F' H' R' st' => ⟨F', ρ', s3, R', st', hw3⟩
      | bk ρ' => exact fun σ' F' H' R' st' => q _ s3 hw3 σ' F' H' R' st'
      | rt d => exact q _ s3 hw3
/-! ### defs -/
def startN (n : Nat) (ds : List PyData) : Sl := none :: (ds.map (fun d => some (.vl d)) ++ List.replicate (n - (ds.length + 1)) none)
def runN {S : Type} (n : Nat) (b : BN S) : MN S := fun ds s W => b (startN n ds) s fun fl s' => match fl with
  | .rt d => W d s'
  | .nx _ => W .none s'
  | _ => False
theorem startN_ow {n : Nat} {ds : List PyData} {j : Nat} {c : Cell} (h : (startN n ds)[j]? = some (some c)) : ∃ d m, c = .vl d ∧ j = m + 1 ∧ ds[m]? = some d := by
  unfold startN at h
  cases j with
  | zero => cases h
  | succ m =>
    rw [List.getElem?_cons_succ] at h
    by_cases hm : m < ds.length
    · rw [List.getElem?_append_left (by simpa using hm), List.getElem?_map] at h
      cases e : ds[m]? with
      | none => rw [e] at h; cases h
      | some d => rw [e] at h; cases h; exact ⟨d, m, rfl, rfl, e⟩
    · rw [List.getElem?_append_right (by simpa using hm), List.getElem?_replicate] at h
      split at h <;> cases h
open Classical in
/-- the heap but the region -/
noncomputable def butD (D : Addr → Prop) (H : Hp) : Hp := fun a => if D a then none else H a
theorem butD_some {D : Addr → Prop} {H : Hp} {a : Addr} {o : HO} (h : butD D H a = some o) : ¬ D a ∧ H a = some o := by
  unfold butD at h
  split at h
  · cases h
  · exact ⟨by assumption, h⟩
theorem butD_out {D : Addr → Prop} {H : Hp} {a : Addr} (h : ¬ D a) : butD D H a = H a := by
  unfold butD
  rw [if_neg h]
theorem butD_in {D : Addr → Prop} {H : Hp} {a : Addr} (h : D a) : butD D H a = none := by
  unfold butD
  rw [if_pos h]
/-- THE RULE for a def over a region, its first parameter -/
theorem fn_reg {x qual : Str} {params : Arguments} {body : List Stmt} {dvs : List V} {kws : List (Str × V)} {f : Addr} {fd : FuncData} {ps : List Str} {b : BN G.S} {n : Nat} (Fu : FunD K x qual params body sc dvs kws f fd) (S : FnScope N ps sc) (hn : ps.length = n + 1)
    (h : PSsn (Bod P w K mg base N qual sc f k) K G 0 body b) : FnOk P w K mg base CX0 (k + 1) f fd ps (spN G K n (runN N.length b)) := by
  obtain ⟨t, h, sd⟩ := h.ex
  refine Fu.ok S (fun vs H Q E q => ?_) fun cdv A outer s0 H vs Q E hr q => ⟨t, PSs.nox (h _ ⟨cdv, A, outer, s0, H, E, hr, rfl⟩), ?_⟩
  · obtain ⟨δ, F, ds, s, vs', W, rfl, hl, _, _, r, _⟩ := q
    rw [List.length_cons, r.length, hl, hn]
  · obtain ⟨δ, F, ds, s, vs', W, rfl, hl, sF, av, r, st, e, q⟩ := q
    have hlv : vs'.length = n := by rw [r.length, hl]
    have hnN : n + 1 ≤ N.length := by
      have h1 := congrArg List.length S.pre
      rw [List.length_take, hn] at h1
      omega
    have RN : RelSN G δ 0 K F (butD (G.D δ) H) F H (L2.start N (G.lk δ :: vs')) (startN N.length ds) := by
      refine ⟨⟨⟨?_, sF, fun j c e1 => ?_, fun j kk d1 d2 a ne e1 e2 => ?_⟩, av, fun j d1 a e1 => ?_, rfl, rfl⟩, fun a o e1 => (butD_some e1).2, Gr.refl _ _, fun j d1 a e1 => ?_, fun a d => butD_in d⟩
      · unfold L2.start startN
        simp [hlv, hl]
      · obtain ⟨d, m, rfl, rfl, e2⟩ := startN_ow e1
        obtain ⟨v, hv, rv⟩ := r.get e2
        refine ⟨v, ?_, rv⟩
        have hm : m < vs'.length := (List.getElem?_eq_some_iff.mp hv).1
        unfold L2.start
        rw [List.getElem?_append_left (by simp; omega), List.getElem?_map, List.getElem?_cons_succ, hv]
        rfl
      · obtain ⟨d, m, z, _⟩ := startN_ow e1
        cases z
      · obtain ⟨d, m, z, _⟩ := startN_ow e1
        cases z
      · obtain ⟨d, m, z, _⟩ := startN_ow e1
        cases z
    have aft : ∀ {F' H' s'}, Same (butD (G.D δ) H) H' → Gr F F' (butD (G.D δ) H) → Same F' H' → (∀ a, G.D δ a → F' a = none) → G.St δ s' H' → Aft G δ F H s' F' H' := fun {F' H' s'} sb g f av' st' =>
      ⟨fun a o d e1 => sb a o (by rw [butD_out d]; exact e1), ⟨g.1, fun a o e1 => (g.2 a o e1).elim .inl fun z => by
        by_cases d : G.D δ a
        · rw [av' a d] at e1; cases e1
        · rw [butD_out d] at z; exact .inr z⟩, f, st'⟩
    refine sd δ F _ F H _ _ s _ _ RN st e fun fl s' hw => ?_
    cases fl with
    | rt d => exact fun v F' H' sb g f av' st' r' => q v d s' F' H' hw (aft sb g f av' st') r'
    | nx ρ' => exact fun σ' F' H' R' st' => q .non .none s' F' H' hw (aft R'.sb R'.gr R'.n.r.ex R'.n.av st') .non
    | bk ρ' => exact hw.elim
    | ct ρ' => exact hw.elim
theorem calN_of {x : Str} {st : Stmt} {n nN : Nat} {ps : List Str} {b : BN G.S} (D : DF K mg x st []) (S : FnScope N ps (defScope st)) (hN : N.length = nN) (hn : ps.length = n + 1)
    (hb : ∀ (kV doc pm : Value) (an : Option Addr) (cdv ct : Value) (us : List Value), us.length = ps.length → bindArgs (PySem.W.fnOf x x (defArgs st) (defBody st) (defScope st) Value.none kV doc pm an cdv ct) { pos := us } = pure (ps.zip us))
    (h : ∀ f, Fam (Bod P w K mg base N x (defScope st) f k) P w K mg base N (defScope st) k true → PSsn (Bod P w K mg base N x (defScope st) f k) K G 0 (defBody st) b) : CalN P w K mg base G (k + 1) x n (runN nN b) := by
  obtain ⟨f, fd, hm, F⟩ := D
  subst hN
  exact ⟨f, fd, ps, hm, F.kp, hn, fn_reg F S hn (h f (fam_bod S.nd)), F.bindsN hb⟩
theorem spN_none {n : Nat} {vs : List V} {H : Hp} {Q : VK} {E : XK} (h : spN G K n (fun _ _ _ => False) vs H Q E) : False := by
  obtain ⟨δ, F, ds, s, vs', W, _, _, _, _, _, _, e, _⟩ := h
  exact e
theorem calN_zero {x : Str} {st : Stmt} {j n : Nat} {ps : List Str} (D : DF K mg x st []) (hn : ps.length = n + 1)
    (hb : ∀ (kV doc pm : Value) (an : Option Addr) (cdv ct : Value) (us : List Value), us.length = ps.length → bindArgs (PySem.W.fnOf x x (defArgs st) (defBody st) (defScope st) Value.none kV doc pm an cdv ct) { pos := us } = pure (ps.zip us)) :
    CalN P w K mg base G j x n (fun _ _ _ => False) := by
  obtain ⟨f, fd, hm, F⟩ := D
  exact ⟨f, fd, ps, hm, F.kp, hn, ⟨fun vs H Q E h => (spN_none h).elim, fun A outer s H args us vs Q E _ _ _ _ h => (spN_none h).elim⟩, F.bindsN hb⟩
/-- a weaker mirror -/
theorem CalN.imp {j : Nat} {x : Str} {n : Nat} {m m' : MN G.S} (c : CalN P w K mg base G j x n m) (h : ∀ ds s W, m' ds s W → m ds s W) : CalN P w K mg base G j x n m' := by
  obtain ⟨f, fd, ps, hm, kp, hn, Fn, b⟩ := c.ex
  refine ⟨f, fd, ps, hm, kp, hn, Fn.imp fun vs H Q E q => ?_, b⟩
  obtain ⟨δ, F, ds, s, vs', W, h1, h2, h3, h4, h5, h6, e, q⟩ := q
  exact ⟨δ, F, ds, s, vs', W, h1, h2, h3, h4, h5, h6, h _ _ _ e, q⟩
end
end Pd

set_option maxHeartbeats 2000000
/-! Pd14: a region: two at once, comprehensions. -/
namespace Pd
open PySem PySem.Spec PyProof.Rows L2
section
variable {C : Cx → Prop} {P : Program} {w : World} {K : PySem.W.Frag} {mg : Str → Option Value} {base : Heap} {N : List Str} {sc : Scope} {k : Nat} {top : Bool} {G : Reg} {i : Nat}
/-- a, b = e1, e2 -/
theorem psn_par (Z : Fam C P w K mg base N sc k top) (j1 j2 : Nat) {x y : Str} {a b : Expr} {t : AN G.S} {px py pt pos : Pos} {kt k2 pt2} (h1 : N[j1]? = some x) (h2 : N[j2]? = some y) (hij : j1 ≠ j2) (n1 : j1 ≠ i) (n2 : j2 ≠ i) (hx : sc.names.lookup x = some .local) (hy : sc.names.lookup y = some .local) (ha : PAn C K G i [a, b] t)
    (hw : ∀ env, env.scope = sc → swappedStores [.Tuple [.Name x px, .Name y py] kt pt] (.Tuple [a, b] k2 pt2) env = pure (some [x, y]))
    (hs : ∀ env, swapsWithSole [.Tuple [.Name x px, .Name y py] kt pt] (.Tuple [a, b] k2 pt2) pos.line env = pure false := by intro _; rfl) :
    PSn C K G i (.Assign [.Tuple [.Name x px, .Name y py] kt pt] (.Tuple [a, b] k2 pt2) pos) (nParS j1 j2 t) := by
  obtain ⟨ta, ha, sa⟩ := ha.ex
  refine ⟨tPar j1 j2 ta, fun X c => ps_par (Z.calm X c) (Z.ndX c) (by rw [Z.N_ X c]; exact h1) (by rw [Z.N_ X c]; exact h2) hij (by rw [Z.sc_ X c]; exact hx) (by rw [Z.sc_ X c]; exact hy) (ha X c) (hw X.env (Z.sc_ X c)) (hs X.env), fun δ F0 B F H σ ρ s W D R st hr q => sa δ F H σ ρ s _ R.n st hr _ fun vs ds s1 F1 H1 hw a1 r1 => ?_⟩
  obtain ⟨x, y, rfl, hw⟩ := hw
  cases r1 with
  | cons r1 r2 => cases r2 with
    | cons r2 r3 =>
      cases r3
      exact ⟨_, _, rfl, q _ s1 hw _ F1 H1 (((R.aft st a1).set n1 r1).set n2 r2) a1.st⟩
/-- a, b = e, [] -/
def nParOw {S : Type} (j1 j2 : Nat) (a : EN S) : BN S := fun ρ s W => a ρ s fun d s1 => W (.nx ((ρ.set j1 (some (.vl d))).set j2 (some (.ow [])))) s1
theorem psn_parOw (Z : Fam C P w K mg base N sc k top) (j1 j2 : Nat) {x y : Str} {a : Expr} {t : EN G.S} {p px py pt pos : Pos} {kt k2 pt2} (h1 : N[j1]? = some x) (h2 : N[j2]? = some y) (hij : j1 ≠ j2) (n1 : j1 ≠ i) (n2 : j2 ≠ i) (hx : sc.names.lookup x = some .local) (hy : sc.names.lookup y = some .local) (ha : PEn C K G i a t)
    (hw : ∀ env, env.scope = sc → swappedStores [.Tuple [.Name x px, .Name y py] kt pt] (.Tuple [a, .List [] p] k2 pt2) env = pure (some [x, y]))
    (he : ∀ env, starEach [a, .List [] p] env = (false, eval a env) :: starEach [.List [] p] env := by intro _; rfl)
    (hs : ∀ env, swapsWithSole [.Tuple [.Name x px, .Name y py] kt pt] (.Tuple [a, .List [] p] k2 pt2) pos.line env = pure false := by intro _; rfl) :
    PSn C K G i (.Assign [.Tuple [.Name x px, .Name y py] kt pt] (.Tuple [a, .List [] p] k2 pt2) pos) (nParOw j1 j2 t) := by
  obtain ⟨ta, ha, sa⟩ := ha.ex
  refine ⟨tPar j1 j2 (tCons ta (tCons (tLst tNil) tNil)), fun X c => ps_par (Z.calm X c) (Z.ndX c) (by rw [Z.N_ X c]; exact h1) (by rw [Z.N_ X c]; exact h2) hij (by rw [Z.sc_ X c]; exact hx) (by rw [Z.sc_ X c]; exact hy) (pa_cons (ha X c) (pa_cons (pe_lst pa_nil) pa_nil) (he X.env)) (hw X.env (Z.sc_ X c)) (hs X.env), fun δ F0 B F H σ ρ s W D R st hr q => sa δ F H σ ρ s _ R.n st hr _ fun v d s1 F1 H1 hw a1 r1 => ?_⟩
  refine ⟨by show 0 ≤ sizeLine; decide, fun p hp => ⟨v, .ref p, rfl, ?_⟩⟩
  exact q _ s1 hw _ F1 _ (((R.aft st a1).set n1 r1).setOw a1.st n2 hp .nil) (St.same (same_upd hp) a1.st)
/-! ### comprehensions -/
def lcN {S : Type} (g : TgD) (e : EN S) (ρ : Sl) : List PyData → S → (List PyData → S → Prop) → Prop
  | [], s, W => W [] s
  | d :: r, s, W => ∃ l, g d = some l ∧ e (setD ρ l) s fun x s1 => lcN g e ρ r s1 fun xs s2 => W (x :: xs) s2
def nLcA {S : Type} (src : AN S) (g : TgD) (e : EN S) (vs : List Nat) : AN S := fun ρ s W => src ρ s fun ds s1 => ds.length ≤ 16000000 ∧ lcN g e (wipeD ρ vs) ds s1 W
theorem wipe_at {σ : L2.St} {j : Nat} : ∀ {vs : List Nat}, (vs.all fun v => decide (v ≠ j)) = true → (wipe σ vs)[j]? = σ[j]?
  | [], _ => rfl
  | v :: vs, h => by
    simp only [List.all_cons, Bool.and_eq_true, decide_eq_true_eq] at h
    show ((wipe σ vs).set v none)[j]? = _
    rw [List.getElem?_set_ne h.1, wipe_at h.2]
theorem wipeD_at {ρ : Sl} {j : Nat} : ∀ {vs : List Nat}, (vs.all fun v => decide (v ≠ j)) = true → (wipeD ρ vs)[j]? = ρ[j]?
  | [], _ => rfl
  | v :: vs, h => by
    simp only [List.all_cons, Bool.and_eq_true, decide_eq_true_eq] at h
    show ((wipeD ρ vs).set v none)[j]? = _
    rw [List.getElem?_set_ne h.1, wipeD_at h.2]
theorem wipeD_ow {ρ : Sl} {j : Nat} {c : Cell} : ∀ {vs : List Nat}, (wipeD ρ vs)[j]? = some (some c) → ρ[j]? = some (some c) ∧ ∀ σ : L2.St, (wipe σ vs)[j]? = σ[j]?
  | [], h => ⟨h, fun _ => rfl⟩
  | v :: vs, h => by
    have h' : ((wipeD ρ vs).set v none)[j]? = some (some c) := h
    by_cases q : v = j
    · subst q
      by_cases hl : v < (wipeD ρ vs).length
      · rw [List.getElem?_set_self hl] at h'; cases h'
      · rw [List.getElem?_eq_none (by simpa using hl)] at h'; cases h'
    · rw [List.getElem?_set_ne q] at h'
      obtain ⟨h1, h2⟩ := wipeD_ow h'
      refine ⟨h1, fun σ => ?_⟩
      show ((wipe σ vs).set v none)[j]? = _
      rw [List.getElem?_set_ne q, h2]
theorem RelN.wipe {δ : G.Δ} {F H : Hp} {σ : L2.St} {ρ : Sl} (R : RelN G δ i K F H σ ρ) {vs : List Nat} (h : (vs.all fun v => decide (v ≠ i)) = true) : RelN G δ i K F H (L2.wipe σ vs) (wipeD ρ vs) :=
  ⟨R.r.wipe vs, R.av, fun j ds a e1 e2 => by
    obtain ⟨h1, h2⟩ := wipeD_ow e1
    rw [h2] at e2
    exact R.ow j ds a h1 e2, by rw [wipe_at h]; exact R.lk, by rw [wipeD_at h]; exact R.hid⟩
theorem RelN.sets {δ : G.Δ} {F H : Hp} {m : List (Nat × V)} {l : List (Nat × PyData)} (b : BindV K F m l) : ∀ {σ : L2.St} {ρ : Sl}, (∀ p ∈ l, p.1 ≠ i) → RelN G δ i K F H σ ρ → RelN G δ i K F H (setV σ m) (setD ρ l) := by
  induction b with
  | nil => intro σ ρ _ R; exact R
  | @cons j v d m l r b ih =>
    intro σ ρ hn R
    have hj : j ≠ i := hn _ (List.mem_cons_self ..)
    refine ih (fun p hp => hn p (List.mem_cons_of_mem _ hp)) ⟨R.r.set r, R.av, fun j' ds a e1 e2 => ?_, by rw [List.getElem?_set_ne hj]; exact R.lk, by rw [List.getElem?_set_ne hj]; exact R.hid⟩
    rcases set_none_of e1 with ⟨_, z⟩ | ⟨ne, z⟩
    · cases z
    · rw [List.getElem?_set_ne ne] at e2
      exact R.ow j' ds a z e2
/-- what a comprehension evaluates to: a new list that nothing knows yet -/
def SndL (G : Reg) (i : Nat) (K : PySem.W.Frag) (te : TE) (r : AN G.S) : Prop := ∀ δ F H σ ρ s W, RelN G δ i K F H σ ρ → G.St δ s H → r ρ s W → ∀ Q : VK,
  (∀ p acc ds s' F' H', W ds s' → Aft G δ F H s' F' H' → H p = none → F' p = none → H' p = some (.lst acc) → RpAll K F' acc ds → Q (.ref p) H') → te σ H Q
theorem lcN_ev {wi : TI} {gx : TG} {te : TE} {src : AN G.S} {g : TgD} {e : EN G.S} {vs is : List Nat} (hat : TgAt g is) (hin : tgIn is vs = true) (hv : (vs.all fun v => decide (v ≠ i)) = true)
    (si : ∀ δ F H σ ρ s W, RelN G δ i K F H σ ρ → G.St δ s H → src ρ s W → ∀ R : It → Hp → Prop, (∀ J ds s1 F1 H1, W ds s1 → Aft G δ F H s1 F1 H1 → Walk K J F1 ds → R J H1) → wi σ H R)
    (sg : ∀ F H σ v d l, Same F H → Rp K F v d → g d = some l → ∀ Q : L2.St → Hp → Prop, (∀ m, BindV K F m l → Q (setV σ m) H) → gx v σ H Q)
    (se : SndE G i K te e) : SndL G i K (tLc wi gx tYes te vs) (nLcA src g e vs) := fun δ F H σ ρ s W R st hr Q q => by
  refine si δ F H σ ρ s _ R st hr _ fun J ds s1 F1 H1 hw a1 Wk D hD => ?_
  obtain ⟨hz, hw⟩ := hw
  have R1 := R.aft st a1
  have offI' : offI i g := offI_of hat (List.all_eq_true.mpr fun j hj => List.all_eq_true.mp hv j (of_decide_eq_true (List.all_eq_true.mp hin j hj)))
  have ndD : ¬ G.D δ D := fun d => G.occ δ s1 H1 D a1.st d hD
  refine ⟨fun j m H' => m = ds.length - j ∧ j ≤ ds.length ∧ ∃ F' s' acc accD W', Aft G δ F1 H1 s' F' H' ∧ H' D = some (.lst acc) ∧ F' D = none ∧ acc.length ≤ j ∧ RpAll K F' acc accD ∧ lcN g e (wipeD ρ vs) (ds.drop j) s' W' ∧ ∀ xs s2, W' xs s2 → W (accD ++ xs) s2,
    ⟨ds.length, by simp, Nat.zero_le _, F1, s1, [], [], W, Aft.pure a1.st (same_upd hD) (Gr.refl F1 H1) (a1.ex.trans (same_upd hD)), upd_same, a1.ex.free hD, Nat.le_refl _, .nil, by simpa using hw, fun xs s2 h => h⟩, ?_⟩
  rintro j m H2 ⟨rfl, hj, F2, s2, acc, accD, W', a2, hDl, hDf, hal, rA, hrest, hW⟩
  by_cases hlt : j < ds.length
  · obtain ⟨di, hdi⟩ : ∃ di, ds[j]? = some di := ⟨ds[j], by simp [hlt]⟩
    have hdrop : ds.drop j = di :: ds.drop (j + 1) := by
      have := List.drop_eq_getElem_cons hlt
      rw [List.getElem?_eq_getElem hlt] at hdi
      cases hdi
      exact this
    rw [hdrop] at hrest
    unfold lcN at hrest
    obtain ⟨l, eg, hrest⟩ := hrest
    refine .inr ⟨Wk.go j H2 di (a2.gr.1.trans a2.ex) hdi, fun H' => ∃ F' s' acc accD W', Aft G δ F1 H1 s' F' H' ∧ H' D = some (.lst acc) ∧ F' D = none ∧ acc.length ≤ j + 1 ∧ RpAll K F' acc accD ∧ lcN g e (wipeD ρ vs) (ds.drop (j + 1)) s' W' ∧ ∀ xs s2, W' xs s2 → W (accD ++ xs) s2, fun H' n => ⟨ds.length - (j + 1), by omega, rfl, hlt, n⟩, fun x H' hy => ?_⟩
    obtain ⟨s3, F3, g3, f3, rx⟩ := Wk.yld j F2 H2 di x H' a2.gr.1 a2.ex hdi hy
    have a3 : Aft G δ F2 H2 s2 F3 H' := Aft.pure a2.st s3 g3 f3
    have hD3 : H' D = some (.lst acc) := s3 _ _ hDl
    have notF : ∀ {Fa Fb Ha Hb : Hp} {sa : G.S}, Aft G δ Fa Ha sa Fb Hb → Fa D = none → Ha D ≠ none → Fb D = none := fun {Fa Fb Ha Hb sa} a h1 h2 => by
      cases z : Fb D with
      | none => rfl
      | some o =>
        rcases a.gr.2 D o z with z' | z'
        · rw [h1] at z'; cases z'
        · exact absurd z' h2
    have hDf3 : F3 D = none := notF a3 hDf (by rw [hDl]; simp)
    refine sg F3 H' _ x di l f3 rx eg _ fun mm bm => ⟨?_, ?_⟩
    · rw [wipe_setV _ fun jj hjj => ?_, wipe_idem]
      rw [bm.idx] at hjj
      exact of_decide_eq_true (List.all_eq_true.mp hin jj (hat di l eg jj hjj))
    · dsimp only [tYes]
      rw [if_pos rfl]
      have R3 : RelN G δ i K F3 H' (setV (L2.wipe σ vs) mm) (setD (wipeD ρ vs) l) := RelN.sets bm (offI' di l eg) (((R1.aft a1.st a2).aft a2.st a3).wipe hv)
      refine se δ F3 H' _ _ s2 _ R3 a3.st hrest _ fun yv y s5 F5 H5 hw5 a5 r5 => ?_
      have hD5 : H5 D = some (.lst acc) := a5.sx _ _ ndD hD3
      have hDf5 : F5 D = none := notF a5 hDf3 (by rw [hD3]; simp)
      have a13 := (a2.trans a3).trans a5
      refine ⟨acc, hD5, by rw [sizeLine_eq]; omega, F5, s5, acc ++ [yv], accD ++ [y], fun xs s6 => W' (y :: xs) s6, ⟨fun a o d z => ?_, a13.gr, fun a o z => ?_, G.frame δ s5 H5 _ a5.st fun a d => ?_⟩, upd_same, hDf5, by simp; omega, (RpAll.mono (a3.gr.1.trans a5.gr.1) _ _ rA).append (.cons r5 .nil), hw5, fun xs s6 h => ?_⟩
      · have ea : a ≠ D := fun ea => by subst ea; rw [hD] at z; cases z
        rw [upd_ne ea]
        exact a13.sx a o d z
      · by_cases ea : a = D
        · subst ea; rw [hDf5] at z; cases z
        · rw [upd_ne ea]; exact a5.ex a o z
      · have : a ≠ D := fun ea => by subst ea; exact ndD d
        rw [upd_ne this]
      · have := hW _ _ h
        rw [List.append_assoc]
        exact this
  · have ei : j = ds.length := by omega
    subst ei
    rw [List.drop_length] at hrest
    unfold lcN at hrest
    have := hW _ _ hrest
    rw [List.append_nil] at this
    exact .inl ⟨Wk.stop _ H2 (a2.gr.1.trans a2.ex) (Nat.le_refl _), q D acc accD s2 F2 H2 this (a1.trans a2) (a1.free hD) hDf hDl rA⟩
def nLc {S : Type} (a : AN S) : EN S := fun ρ s W => a ρ s fun ds s1 => W (.list ds) s1
theorem pn_lc (Z : Fam C P w K mg base N sc k top) {elt tg iter : Expr} {scope : Scope} (own : List (Str × Nat)) {pos : Pos} {src : AN G.S} {g : TgD} {e : EN G.S} {is : List Nat} (hat : TgAt g is) (hi : PIn C K G i tg iter src)
    (hg : PGd (Blk C scope) K tg g) (he : PEn (Blk C scope) K G i elt e) (ok : blkC N sc scope own = true) (hin : tgIn is (own.map (·.2)) = true) (hv : ((own.map (·.2)).all fun v => decide (v ≠ i)) = true)
    (hs : ∀ env x, foldedSetIterable iter env x = pure x := by intro _ _; rfl) : PEn C K G i (.ListComp elt [⟨tg, iter, [], 0⟩] scope pos) (nLc (nLcA src g e (own.map (·.2)))) := by
  obtain ⟨wi, hi, si⟩ := hi.ex
  obtain ⟨gx, hg, sg⟩ := hg.ex
  obtain ⟨te, he, se⟩ := he.ex
  refine ⟨tLc wi gx tYes te (own.map (·.2)), fun X c => pe_lc (Z.calm X c) (Z.ndX c) (hi X c) (by rw [Z.N_ X c, Z.sc_ X c]; exact blkOk_by ok) (fun s H A cl fp => hg _ ⟨X, s, H, cl, A, fp, c, rfl⟩)
    (fun s H A cl fp => pts_nil) (fun s H A cl fp => he _ ⟨X, s, H, cl, A, fp, c, rfl⟩) (hs X.env), fun δ F H σ ρ s W R st hr Q q => ?_⟩
  refine lcN_ev hat hin hv si sg se δ F H σ ρ s _ R st hr Q fun p acc ds s' F' H' hw a hp hpF hpH r => ?_
  have sF : Same F' (upd F' p (.lst acc)) := same_upd hpF
  refine q (.ref p) (.list ds) s' (upd F' p (.lst acc)) H' hw ⟨a.sx, ⟨a.gr.1.trans sF, fun b o z => ?_⟩, fun b o z => ?_, a.st⟩ (.lst upd_same (RpAll.mono sF _ _ r))
  · by_cases qq : b = p
    · subst qq; exact .inr hp
    · rw [upd_ne qq] at z; exact a.gr.2 b o z
  · by_cases qq : b = p
    · subst qq; rw [upd_same] at z; cases z; exact hpH
    · rw [upd_ne qq] at z; exact a.ex b o z
/-- y = [..], a list of the body's own -/
def nOwLc {S : Type} (j : Nat) (a : AN S) : BN S := fun ρ s W => a ρ s fun ds s1 => W (.nx (ρ.set j (some (.ow ds)))) s1
theorem psn_owLc (Z : Fam C P w K mg base N sc k top) (j : Nat) {y : Str} {py : Pos} {elt tg iter : Expr} {scope : Scope} (own : List (Str × Nat)) {pos spos : Pos} {src : AN G.S} {g : TgD} {e : EN G.S} {is : List Nat} (hj : j ≠ i) (hat : TgAt g is) (hi : PIn C K G i tg iter src)
    (hg : PGd (Blk C scope) K tg g) (he : PEn (Blk C scope) K G i elt e) (ok : blkC N sc scope own = true) (hin : tgIn is (own.map (·.2)) = true) (hv : ((own.map (·.2)).all fun v => decide (v ≠ i)) = true) (hy : N[j]? = some y) (hyl : sc.names.lookup y = some .local) (hkind : sc.kind = .function) (hl : (py.line == pos.line) = true)
    (ha : (scope.names.any fun (n, k) => n == y && (k == .local || k == .cell)) = false)
    (hs : ∀ env x, foldedSetIterable iter env x = pure x := by intro _ _; rfl) : PSn C K G i (.Assign [.Name y py] (.ListComp elt [⟨tg, iter, [], 0⟩] scope pos) spos) (nOwLc j (nLcA src g e (own.map (·.2)))) := by
  obtain ⟨wi, hi, si⟩ := hi.ex
  obtain ⟨gx, hg, sg⟩ := hg.ex
  obtain ⟨te, he, se⟩ := he.ex
  refine ⟨tAsg (tLc wi gx tYes te (own.map (·.2))) (gName j), fun X c => ps_setLc (Z.calm X c) (Z.ndX c) (by rw [Z.N_ X c]; exact hy) (by rw [Z.sc_ X c]; exact hyl) (sw_true (by rw [Z.sc_ X c]; exact hkind) (by rw [Z.sc_ X c]; exact hyl) hl ha) (hi X c) (by rw [Z.N_ X c, Z.sc_ X c]; exact blkOk_by ok)
    (fun s H A cl fp => hg _ ⟨X, s, H, cl, A, fp, c, rfl⟩) (fun s H A cl fp => pts_nil) (fun s H A cl fp => he _ ⟨X, s, H, cl, A, fp, c, rfl⟩) (hs X.env), fun δ F0 B F H σ ρ s W D R st hr q => ?_⟩
  refine lcN_ev hat hin hv si sg se δ F H σ ρ s _ R.n st hr _ fun p acc ds s' F' H' hw a hp hpF hpH r => ?_
  -- the state as if the list were laid now
  have R1 := R.aft st a
  have nold : ∀ (jj : Nat) (es' : List PyData), ρ[jj]? = some (some (.ow es')) → σ[jj]? ≠ some (some (.ref p)) := fun jj es' z1 z2 => by
    obtain ⟨v, hv', a', us', ee, h1, h2, h3⟩ := R.n.r.cell jj _ z1
    rw [hv'] at z2
    cases z2
    cases ee
    rw [hp] at h1
    cases h1
  refine q _ s' hw (σ.set j (some (.ref p))) F' H' ⟨⟨⟨by simp [R1.n.r.len], R1.n.r.ex, fun jj c z => ?_, fun jj kk d1 d2 a' ne z1 z2 z3 z4 => ?_⟩, R1.n.av, fun jj d1 a' z1 z2 => ?_, by rw [List.getElem?_set_ne hj]; exact R1.n.lk, by rw [List.getElem?_set_ne hj]; exact R1.n.hid⟩, R1.sb, R1.gr, fun jj d1 a' z1 z2 => ?_, R1.avB⟩ a.st
  · rcases set_none_of z with ⟨q1, z'⟩ | ⟨ne, z'⟩
    · subst q1
      subst z'
      have hli : j < σ.length := by
        rw [R1.n.r.len]
        have := (List.getElem?_eq_some_iff.mp z).1
        simpa using this
      exact ⟨.ref p, List.getElem?_set_self hli, p, acc, rfl, hpH, hpF, r⟩
    · obtain ⟨v, hv', hc⟩ := R1.n.r.cell jj c z'
      exact ⟨v, by rw [List.getElem?_set_ne ne]; exact hv', hc⟩
  · rcases set_none_of z1 with ⟨q1, y1⟩ | ⟨n1, y1⟩
    · rcases set_none_of z2 with ⟨q2, y2⟩ | ⟨n2, y2⟩
      · exact ne (q1.symm.trans q2)
      · rcases set_none_of z3 with ⟨_, y⟩ | ⟨ny, _⟩
        · cases y
          rw [List.getElem?_set_ne n2] at z4
          exact nold kk d2 y2 z4
        · exact ny q1
    · rcases set_none_of z2 with ⟨q2, y2⟩ | ⟨n2, y2⟩
      · rcases set_none_of z4 with ⟨_, y⟩ | ⟨ny, _⟩
        · cases y
          rw [List.getElem?_set_ne n1] at z3
          exact nold jj d1 y1 z3
        · exact ny q2
      · rw [List.getElem?_set_ne n1] at z3
        rw [List.getElem?_set_ne n2] at z4
        exact R1.n.r.inj jj kk d1 d2 a' ne y1 y2 z3 z4
  · rcases set_none_of z1 with ⟨q1, y1⟩ | ⟨n1, y1⟩
    · rcases set_none_of z2 with ⟨_, y⟩ | ⟨ny, _⟩
      · cases y
        exact fun d => G.occ δ s H p st d hp
      · exact absurd q1 ny
    · rw [List.getElem?_set_ne n1] at z2
      exact R1.n.ow jj d1 a' y1 z2
  · rcases set_none_of z1 with ⟨q1, y1⟩ | ⟨n1, y1⟩
    · rcases set_none_of z2 with ⟨_, y⟩ | ⟨ny, _⟩
      · cases y
        exact R.sb.free hp
      · exact absurd q1 ny
    · rw [List.getElem?_set_ne n1] at z2
      exact R1.own jj d1 a' y1 z2
end
end Pd

set_option maxHeartbeats 2000000
/-! Pd15: the deck: a dict of cells (a list of numbers), blend, drawn. -/
namespace Pd
open PySem PySem.Spec PyProof.Rows L2

structure Dk where
  cells : List Int
  blend : Int
  drawn : Int
def dkKV (c : Addr) (s : Dk) : List (Key × V) := [(.inr "cells", .ref c), (.inr "blend", .int s.blend), (.inr "drawn", .int s.drawn)]
def deckR : Reg where
  Δ := Addr × Addr
  S := Dk
  D := fun δ a => a = δ.1 ∨ a = δ.2
  St := fun δ s H => δ.1 ≠ δ.2 ∧ H δ.1 = some (.dK (dkKV δ.2 s)) ∧ H δ.2 = some (.lst (s.cells.map V.int)) ∧ s.cells.length ≤ 63
  lk := fun δ => .ref δ.1
  frame := fun δ s H H' ⟨h0, h1, h2, h3⟩ k => ⟨h0, by rw [k _ (.inl rfl)]; exact h1, by rw [k _ (.inr rfl)]; exact h2, h3⟩
  occ := fun δ s H a ⟨_, h1, h2, _⟩ d => by
    rcases d with rfl | rfl
    · rw [h1]; simp
    · rw [h2]; simp
section
variable {C : Cx → Prop} {P : Program} {w : World} {K : PySem.W.Frag} {mg : Str → Option Value} {base : Heap} {N : List Str} {sc : Scope} {k : Nat} {top : Bool} {i : Nat}
theorem val_drawn {c : Addr} {s : Dk} : valV (dkKV c s) (.inr "drawn" : Key) = some (.int s.drawn) := rfl
theorem val_blend {c : Addr} {s : Dk} : valV (dkKV c s) (.inr "blend" : Key) = some (.int s.blend) := rfl
theorem val_cells {c : Addr} {s : Dk} : valV (dkKV c s) (.inr "cells" : Key) = some (.ref c) := rfl
theorem put_drawn {c : Addr} {s : Dk} {n : Int} : putK (dkKV c s) (.inr "drawn" : Key) (.int n) = dkKV c { s with drawn := n } := rfl
theorem get_drawn {δ : Addr × Addr} {H : Hp} {s : Dk} (st : deckR.St δ s H) : DGet H δ.1 (.str "drawn") (some (.int s.drawn)) := val_drawn (c := δ.2) (s := s) ▸ DGet.k (k := .inr "drawn") st.2.1
theorem get_blend {δ : Addr × Addr} {H : Hp} {s : Dk} (st : deckR.St δ s H) : DGet H δ.1 (.str "blend") (some (.int s.blend)) := val_blend (c := δ.2) (s := s) ▸ DGet.k (k := .inr "blend") st.2.1
theorem get_cells {δ : Addr × Addr} {H : Hp} {s : Dk} (st : deckR.St δ s H) : DGet H δ.1 (.str "cells") (some (.ref δ.2)) := val_cells (c := δ.2) (s := s) ▸ DGet.k (k := .inr "cells") st.2.1
/-- deck['drawn'], deck['blend'] -/
def nDeck (f : Dk → PyData) : EN Dk := fun _ s W => W (f s) s
theorem pn_drawn (Z : Fam C P w K mg base N sc k top) {x : Str} {px pk pos : Pos} {j} (h : okV N sc i x = true) : PEn C K deckR i (.Subscript (.Name x px) (.Constant (.str "drawn") j pk) pos) (nDeck fun s => .int s.drawn) :=
  ⟨tDGet (tVar i) (tC (.str "drawn")), fun X c => pe_dget (by have := Z.units c; omega) (pe_lk Z h c) pe_str (fun _ _ => rfl), fun δ F H σ ρ s W R st hr Q q =>
    ⟨.ref δ.1, R.lk, δ.1, .int (Dk.drawn s), rfl, get_drawn st, q _ _ s F H hr (Aft.refl R.r.ex st) (.int _)⟩⟩
theorem pn_blend (Z : Fam C P w K mg base N sc k top) {x : Str} {px pk pos : Pos} {j} (h : okV N sc i x = true) : PEn C K deckR i (.Subscript (.Name x px) (.Constant (.str "blend") j pk) pos) (nDeck fun s => .int s.blend) :=
  ⟨tDGet (tVar i) (tC (.str "blend")), fun X c => pe_dget (by have := Z.units c; omega) (pe_lk Z h c) pe_str (fun _ _ => rfl), fun δ F H σ ρ s W R st hr Q q =>
    ⟨.ref δ.1, R.lk, δ.1, .int (Dk.blend s), rfl, get_blend st, q _ _ s F H hr (Aft.refl R.r.ex st) (.int _)⟩⟩
/-- deck['cells'] as such -/
theorem pe_cells (Z : Fam C P w K mg base N sc k top) {x : Str} {px pk pos : Pos} {j} (h : okV N sc i x = true) {X : Cx} (c : C X) : PE X (.Subscript (.Name x px) (.Constant (.str "cells") j pk) pos) (tDGet (tVar i) (tC (.str "cells"))) :=
  pe_dget (by have := Z.units c; omega) (pe_lk Z h c) pe_str (fun _ _ => rfl)
theorem rd_cells {δ : Addr × Addr} {F H : Hp} {σ : L2.St} {ρ : Sl} {s : Dk} {Q : VK} (R : RelN deckR δ i K F H σ ρ) (st : deckR.St δ s H) (q : Q (.ref δ.2) H) : tDGet (tVar i) (tC (.str "cells")) σ H Q :=
  ⟨.ref δ.1, R.lk, δ.1, .ref δ.2, rfl, get_cells st, q⟩
/-- deck['drawn'] = e -/
def nPutDrawn (r : EN Dk) : BN Dk := fun ρ s W => r ρ s fun d s1 => ∃ n, d = .int n ∧ W (.nx ρ) { s1 with drawn := n }
theorem st_put {δ : Addr × Addr} {H : Hp} {s : Dk} {n : Int} (st : deckR.St δ s H) : deckR.St δ { s with drawn := n } (upd H δ.1 (.dK (dkKV δ.2 { s with drawn := n }))) :=
  ⟨st.1, upd_same, by rw [upd_ne (Ne.symm st.1)]; exact st.2.2.1, st.2.2.2⟩
theorem aft_upd {δ : Addr × Addr} {F H : Hp} {s' : Dk} {a : Addr} {o : HO} (d : deckR.D δ a) (av : ∀ a, deckR.D δ a → F a = none) (e : Same F H) (st' : deckR.St δ s' (upd H a o)) : Aft deckR δ F H s' F (upd H a o) :=
  ⟨fun b u nd h => by
    have : b ≠ a := fun q => by subst q; exact nd d
    rw [upd_ne this]; exact h, Gr.refl F H, fun b u h => by
    have : b ≠ a := fun q => by subst q; rw [av b d] at h; cases h
    rw [upd_ne this]; exact e b u h, st'⟩
theorem psn_putDrawn (Z : Fam C P w K mg base N sc k top) {x : Str} {e : Expr} {r : EN Dk} {px pk p pos : Pos} {j} (h : okV N sc i x = true) (he : PEn C K deckR i e r) (hs : ∀ env, swapsWith e (some (.Subscript (.Name x px) (.Constant (.str "drawn") j pk) p)) pos.line env = pure false := by intro _; rfl) :
    PSn C K deckR i (.Assign [.Subscript (.Name x px) (.Constant (.str "drawn") j pk) p] e pos) (nPutDrawn r) := by
  obtain ⟨te, he, se⟩ := he.ex
  refine ⟨sDPut (tVar i) (tC (.str "drawn")) te, fun X c => ps_dput (by have := Z.units c; omega) (pe_lk Z h c) pe_str (he X c) (hs X.env), fun δ F0 B F H σ ρ s W D R st hr q => se δ F H σ ρ s _ R.n st hr _ fun v d s1 F1 H1 hw a1 r1 => ?_⟩
  obtain ⟨n, rfl, hw⟩ := hw
  have R1 := R.aft st a1
  have hv := rp_int r1
  subst hv
  refine ⟨.ref δ.1, R1.n.lk, δ.1, upd H1 δ.1 (.dK (dkKV δ.2 { s1 with drawn := n })), rfl, ?_, ?_⟩
  · exact put_drawn (c := δ.2) (s := s1) (n := n) ▸ DPut.k (k := .inr "drawn") a1.st.2.1 (by show 3 < sizeLine; decide)
  · have a2 := aft_upd (.inl rfl) R1.n.av a1.ex (st_put (n := n) a1.st)
    exact q _ _ hw σ F1 _ (R1.aft a1.st a2) a2.st
/-- deck['cells'] != [] -/
def nCells : TN Dk := fun _ s W => W (!s.cells.isEmpty) s
theorem lay_ints : ∀ l : List Int, PyData.canLayAll0 (l.map PyData.int) = true
  | [] => by simp [PyData.canLayAll0]
  | a :: l => by
    show PyData.canLayAll0 (PyData.int a :: l.map PyData.int) = true
    simp [PyData.canLayAll0, PyData.canLay0, lay_ints l]
theorem deep_ints : ∀ l : List Int, PyData.depthAll (l.map PyData.int) = 0
  | [] => by simp [PyData.depthAll]
  | a :: l => by
    show PyData.depthAll (PyData.int a :: l.map PyData.int) = 0
    simp [PyData.depthAll, PyData.depth, deep_ints l]
theorem ints_shaped (l : List Int) : SeqAt.shaped (.list (l.map PyData.int)) = true := by
  unfold SeqAt.shaped
  simp [PyData.canLay0, PyData.depth, lay_ints, deep_ints]
theorem rp_ints {F : Hp} : ∀ l : List Int, RpAll K F (l.map V.int) (l.map PyData.int)
  | [] => .nil
  | a :: l => .cons (.int a) (rp_ints l)
theorem dp_ints {H : Hp} : ∀ l : List Int, DpAll K H (l.map V.int) (l.map PyData.int)
  | [] => .nil
  | a :: l => .cons (.int a) (dp_ints l)
theorem ptn_cells (Z : Fam C P w K mg base N sc k top) {x : Str} {px pk p pos pos' : Pos} {j} (h : okV N sc i x = true) (hm : behindInMarks .NotEq (.List [] p) = false := by rfl) :
    PTn C K deckR i (.Compare (.Subscript (.Name x px) (.Constant (.str "cells") j pk) pos) [.NotEq] [.List [] p] pos') nCells := by
  refine ⟨tTest (tOp (rNeD K) (tDGet (tVar i) (tC (.str "cells"))) (tLst tNil)), fun X c => ?_, fun δ F H σ ρ s W R st hr Q q => ?_⟩
  · have := op_neD (X := X) (by have := Z.units c; omega)
    rw [Z.K_ X c] at this
    exact pt_cmpR this (pe_cells Z h c) (pe_lst pa_nil) hm
  · refine rd_cells R st ?_
    refine ⟨by show 0 ≤ sizeLine; decide, fun p' hp' => ?_⟩
    have s1 : Same H (upd H p' (.lst [])) := same_upd hp'
    refine ⟨.list (s.cells.map PyData.int), .list [], .lst (.inl (.inl (s1 _ _ st.2.2.1))) (dp_ints _), .lst (.inl (.inl upd_same)) .nil, ints_shaped _, by decide +kernel, _, rfl, ?_⟩
    have hb : (!(PyData.list (s.cells.map PyData.int)).eqv (.list [])) = !s.cells.isEmpty := by
      cases s.cells <;> rfl
    rw [hb]
    exact q _ s F _ hr (Aft.pure st s1 (Gr.refl F H) (R.r.ex.trans s1))
/-- x = deck['cells'].pop() -/
def nPopCell (j : Nat) : BN Dk := fun ρ s W => ∃ c, s.cells[s.cells.length - 1]? = some c ∧ W (.nx (ρ.set j (some (.vl (.int c))))) { s with cells := s.cells.dropLast }
theorem psn_popCell (Z : Fam C P w K mg base N sc k top) (j : Nat) {x y : Str} {px py pk p apos cpos pos : Pos} {jj} (hj : j ≠ i) (h : okV N sc i x = true) (ho : okS N sc top j y = true)
    (h1 : ∀ env, attributeBase (.Subscript (.Name x px) (.Constant (.str "cells") jj pk) p) "pop" env (eval (.Subscript (.Name x px) (.Constant (.str "cells") jj pk) p) env) = eval (.Subscript (.Name x px) (.Constant (.str "cells") jj pk) p) env := by intro _; rfl)
    (h3 : (apos.endLine == cpos.line) = true := by rfl)
    (hs : ∀ env, swapsWith (.Call (.Attribute (.Subscript (.Name x px) (.Constant (.str "cells") jj pk) p) "pop" apos) [] [] cpos) (some (.Name y py)) pos.line env = pure false := by intro _; rfl) :
    PSn C K deckR i (.Assign [.Name y py] (.Call (.Attribute (.Subscript (.Name x px) (.Constant (.str "cells") jj pk) p) "pop" apos) [] [] cpos) pos) (nPopCell j) := by
  refine ⟨tAsg (tBM0 K "list" rPop (tDGet (tVar i) (tC (.str "cells")))) (gName j), fun X c => ?_, fun δ F0 B F H σ ρ s W D R st hr q => ?_⟩
  · have := pe_bm0 (apos := apos) (cpos := cpos) PySem.F.plainAttrs_list PySem.F.slot_list_pop PySem.F.type_list_pop (mt_pop (X := X)) (pe_cells Z h c) (h1 X.env) h3
    rw [Z.K_ X c] at this
    have z := okS_ok Z ho c
    exact ps_set (Z.ndX c) z.1 z.2.1 this (hs X.env) z.2.2
  · obtain ⟨c, hc, hw⟩ := hr
    have av := R.n.av
    have nd : F δ.2 = none := av _ (.inr rfl)
    refine rd_cells R.n st ⟨.inl ⟨rfl, _, .inl (.inl st.2.2.1)⟩, δ.2, s.cells.map V.int, .int c, rfl, rfl, st.2.2.1, by rw [List.length_map, List.getElem?_map, hc]; rfl, ?_⟩
    have st' : deckR.St δ { s with cells := s.cells.dropLast } (upd H δ.2 (.lst (s.cells.map V.int).dropLast)) := by
      refine ⟨st.1, by rw [upd_ne st.1]; exact st.2.1, by rw [upd_same]; simp [List.map_dropLast], ?_⟩
      have := st.2.2.2
      simp only [List.length_dropLast]
      omega
    have a2 := aft_upd (.inr rfl) av R.n.r.ex st'
    exact q _ _ hw _ F _ ((R.aft st a2).set hj (.int c)) a2.st
/-- deck['cells'].append(e) -/
def nAppCell (r : EN Dk) : BN Dk := fun ρ s W => r ρ s fun d s1 => ∃ c, d = .int c ∧ s1.cells.length < 63 ∧ W (.nx ρ) { s1 with cells := s1.cells ++ [c] }
theorem psn_appCell (Z : Fam C P w K mg base N sc k top) {x : Str} {e : Expr} {r : EN Dk} {px pk p apos cpos pos : Pos} {jj} (h : okV N sc i x = true) (he : PEn C K deckR i e r)
    (h1 : ∀ env, attributeBase (.Subscript (.Name x px) (.Constant (.str "cells") jj pk) p) "append" env (eval (.Subscript (.Name x px) (.Constant (.str "cells") jj pk) p) env) = eval (.Subscript (.Name x px) (.Constant (.str "cells") jj pk) p) env := by intro _; rfl)
    (h2 : ∀ env, (((((backTo cpos (starEach (e :: []) env)).all fun x => !x.fst) && (backToKw cpos (keywordEach [] env)).all fun x => x.fst.isSome) && decide (((e :: []).length + ([] : List Keyword).length + if ([] : List Keyword).isEmpty = true then 0 else 1) < 30)) = true) := by intro _; rfl)
    (h3 : (apos.endLine == cpos.line) = true := by rfl) (h4 : ∀ env, starEach (e :: []) env = (false, eval e env) :: starEach [] env := by intro _; rfl)
    (hs : ∀ env, swapsWith (.Call (.Attribute (.Subscript (.Name x px) (.Constant (.str "cells") jj pk) p) "append" apos) [e] [] cpos) none pos.line env = pure false := by intro _; rfl) :
    PSn C K deckR i (.Expr (.Call (.Attribute (.Subscript (.Name x px) (.Constant (.str "cells") jj pk) p) "append" apos) [e] [] cpos) pos) (nAppCell r) := by
  obtain ⟨te, he, se⟩ := he.ex
  refine ⟨tDrop (tBM K "list" rAppend (tDGet (tVar i) (tC (.str "cells"))) (tCons te tNil)), fun X c => ?_, fun δ F0 B F H σ ρ s W D R st hr q => ?_⟩
  · have := pe_bm (apos := apos) (cpos := cpos) PySem.F.plainAttrs_list PySem.F.slot_list_append PySem.F.type_list_append (mt_append (X := X)) (pe_cells Z h c) (pa_cons (he X c) pa_nil (h4 X.env)) (h1 X.env) (h2 X.env) h3 (h4 X.env) rfl
    rw [Z.K_ X c] at this
    exact ps_expr this (hs X.env)
  · refine rd_cells R.n st ⟨.inl ⟨rfl, _, .inl (.inl st.2.2.1)⟩, se δ F H σ ρ s _ R.n st hr _ fun v d s1 F1 H1 hw a1 r1 => ?_⟩
    obtain ⟨c, rfl, hl, hw⟩ := hw
    have hv := rp_int r1
    subst hv
    have R1 := R.aft st a1
    have av := R1.n.av
    have st1 := a1.st
    refine ⟨δ.2, s1.cells.map V.int, .int c, rfl, rfl, st1.2.2.1, by rw [List.length_map, sizeLine_eq]; omega, ?_⟩
    have st' : deckR.St δ { s1 with cells := s1.cells ++ [c] } (upd H1 δ.2 (.lst (s1.cells.map V.int ++ [.int c]))) :=
      ⟨st1.1, by rw [upd_ne st1.1]; exact st1.2.1, by rw [upd_same]; simp, by simp; omega⟩
    have a2 := aft_upd (.inr rfl) av R1.n.r.ex st'
    exact q _ _ hw _ F1 _ (R1.aft st1 a2) a2.st
end
end Pd

set_option maxHeartbeats 2000000
/-! Pd16: max of two; slots off the region. -/
namespace Pd
open PySem PySem.Spec PyProof.Rows L2
section
variable {C : Cx → Prop} {P : Program} {w : World} {K : PySem.W.Frag} {mg : Str → Option Value} {base : Heap} {N : List Str} {sc : Scope} {k : Nat} {top : Bool} {i : Nat}
def fMax2 : List PyData → Option PyData
  | [.int i, .int j] => some (.int (if j > i then j else i))
  | _ => none
theorem zMax (Z : Fam C P w K mg base N sc k top) : ∀ X, C X → CallR X (.builtin "max") (fun xs H Q => ∃ i j, xs = [V.int i, V.int j] ∧ Q (V.int (if j > i then j else i)) H) := fun X c => call_max2 (Z.calm X c)
theorem oc_max2 : OpC K (fun xs H Q => ∃ i j, xs = [V.int i, V.int j] ∧ Q (V.int (if j > i then j else i)) H) fMax2 := fun F H vs ds d s r e Q q => by
  unfold fMax2 at e
  split at e
  · cases e
    cases r with
    | cons r1 r2 => cases r2 with
      | cons r2 r3 =>
        cases r3
        cases r1
        cases r2
        exact ⟨_, _, rfl, rv_here s (.int _) q⟩
  · cases e
end
end Pd

set_option maxHeartbeats 2000000
/-! Pd17: the reader: an object whose place changes. -/
namespace Pd
open PySem PySem.Spec PyProof.Rows L2

/-- the text, the place -/
structure RdS where
  text : Str
  place : Nat
def rdF (s : RdS) : List (Str × V) := [("number_of_line", .int 0), ("line_text", .str s.text), ("place", .int s.place)]
def rdR (Cl : Addr) : Reg where
  Δ := Addr × Addr
  S := RdS
  D := fun δ a => a = δ.1
  St := fun δ s H => H δ.1 = some (.ins Cl δ.2 (rdF s)) ∧ s.text.length ≤ 16777216
  lk := fun δ => .ref δ.1
  frame := fun δ s H H' ⟨h1, h2⟩ k => ⟨by rw [k _ rfl]; exact h1, h2⟩
  occ := fun δ s H a ⟨h1, _⟩ d => by subst d; rw [h1]; simp
/-- what the head tells of the class -/
structure RdC (K : PySem.W.Frag) (Cl : Addr) : Prop where
  cl : Cls K Cl
  a1 : NoAttr K Cl "number_of_line"
  a2 : NoAttr K Cl "line_text"
  a3 : NoAttr K Cl "place"
section
variable {C : Cx → Prop} {P : Program} {w : World} {K : PySem.W.Frag} {mg : Str → Option Value} {base : Heap} {N : List Str} {sc : Scope} {k : Nat} {top : Bool} {i : Nat} {Cl : Addr}
def nText : EN RdS := fun _ s W => W (.str s.text) s
def nPlace : EN RdS := fun _ s W => W (.int s.place) s
theorem pn_text (Z : Fam C P w K mg base N sc k top) (R : RdC K Cl) {x : Str} {px pos : Pos} (h : okV N sc i x = true) (hb : ∀ env, attributeBase (.Name x px) "line_text" env (eval (.Name x px) env) = eval (.Name x px) env := by intro _; rfl) : PEn C K (rdR Cl) i (.Attribute (.Name x px) "line_text" pos) nText :=
  ⟨tFld K (tVar i) "line_text", fun X c => by have := pe_fld (pos := pos) (pe_lk (pos := px) Z h c) (hb X.env); rw [Z.K_ X c] at this; exact this, fun δ F H σ ρ s W Rn st hr Q q =>
    ⟨.ref δ.1, Rn.lk, δ.1, Cl, δ.2, rdF s, .str (RdS.text s), rfl, st.1, R.cl, R.a2, rfl, q _ _ s F H hr (Aft.refl Rn.r.ex st) (.str _)⟩⟩
theorem pn_place (Z : Fam C P w K mg base N sc k top) (R : RdC K Cl) {x : Str} {px pos : Pos} (h : okV N sc i x = true) (hb : ∀ env, attributeBase (.Name x px) "place" env (eval (.Name x px) env) = eval (.Name x px) env := by intro _; rfl) : PEn C K (rdR Cl) i (.Attribute (.Name x px) "place" pos) nPlace :=
  ⟨tFld K (tVar i) "place", fun X c => by have := pe_fld (pos := pos) (pe_lk (pos := px) Z h c) (hb X.env); rw [Z.K_ X c] at this; exact this, fun δ F H σ ρ s W Rn st hr Q q =>
    ⟨.ref δ.1, Rn.lk, δ.1, Cl, δ.2, rdF s, .int (RdS.place s), rfl, st.1, R.cl, R.a3, rfl, q _ _ s F H hr (Aft.refl Rn.r.ex st) (.int _)⟩⟩
/-- self.place += e -/
def nMove (r : EN RdS) : BN RdS := fun ρ s W => r ρ s fun d s1 => ∃ n : Nat, d = .int n ∧ s1.place = s.place ∧ W (.nx ρ) { s1 with place := s1.place + n }
theorem psn_move (Z : Fam C P w K mg base N sc k top) (Rc : RdC K Cl) {x : Str} {e : Expr} {r : EN RdS} {px tpos pos : Pos} (h : okV N sc i x = true) (he : PEn C K (rdR Cl) i e r) : PSn C K (rdR Cl) i (.AugAssign (.Attribute (.Name x px) "place" tpos) .Add e pos) (nMove r) := by
  obtain ⟨te, he, se⟩ := he.ex
  refine ⟨sFldAug K (tVar i) te L2.rAdd "place", fun X c => by have := ps_fldaug (f := "place") (pos := pos) (tpos := tpos) (pe_lk (pos := px) Z h c) (he X c) in_add; rw [Z.K_ X c] at this; exact this, fun δ F0 B F H σ ρ s W D R st hr q => ?_⟩
  refine ⟨.ref δ.1, R.n.lk, δ.1, Cl, δ.2, rdF s, .int (RdS.place s), rfl, st.1, Rc.cl, Rc.a3, rfl, ?_⟩
  refine se δ F H σ ρ s _ R.n st hr _ fun v d s1 F1 H1 hw a1 r1 => ?_
  obtain ⟨n, rfl, hp, hw⟩ := hw
  have hv := rp_int r1
  subst hv
  have R1 := R.aft st a1
  refine ⟨_, _, rfl, rfl, δ.2, rdF s1, a1.st.1, by show 3 < 1000; decide, ?_⟩
  have hf : putF "place" (.int ((RdS.place s : Int) + (n : Int))) (rdF s1) = rdF { s1 with place := s1.place + n } := by
    have h1 : putF "place" (.int ((RdS.place s : Int) + (n : Int))) (rdF s1) = ([("number_of_line", V.int 0), ("line_text", V.str s1.text), ("place", V.int ((RdS.place s : Int) + (n : Int)))] : List (Str × V)) := rfl
    rw [h1, ← hp, ← Int.natCast_add]
    rfl
  show D.nx σ (upd H1 δ.1 (.ins Cl δ.2 (putF "place" (.int ((RdS.place s : Int) + (n : Int))) (rdF s1))))
  rw [hf]
  have st' : (rdR Cl).St δ { s1 with place := s1.place + n } (upd H1 δ.1 (.ins Cl δ.2 (rdF { s1 with place := s1.place + n }))) := ⟨upd_same, a1.st.2⟩
  have a2 : Aft (rdR Cl) δ F1 H1 { s1 with place := s1.place + n } F1 (upd H1 δ.1 (.ins Cl δ.2 (rdF { s1 with place := s1.place + n }))) :=
    ⟨fun b u nd h => by
      have : b ≠ δ.1 := fun q => nd q
      rw [upd_ne this]; exact h, Gr.refl F1 H1, fun b u h => by
      have : b ≠ δ.1 := fun q => by subst q; rw [R1.n.av _ rfl] at h; cases h
      rw [upd_ne this]; exact a1.ex b u h, st'⟩
  exact q _ _ hw σ F1 _ (R1.aft a1.st a2) a2.st
/-! ### methods -/
structure CalM (P : Program) (w : World) (K : PySem.W.Frag) (mg : Str → Option Value) (base : Heap) (Cl : Addr) (j : Nat) (x : Str) (n : Nat) (m : MN RdS) : Prop where
  ex : ∃ f fd ps, Meth K Cl x f ∧ ps.length = n + 1 ∧ FnOk P w K mg base CX0 j f fd ps (spN (rdR Cl) K n m) ∧ Binds K fd ps []
/-- a method of the module -/
def DM (K : PySem.W.Frag) (Cl : Addr) (x qual : Str) (st : Stmt) : Prop := ∃ f fd, Meth K Cl x f ∧ FunD K x qual (defArgs st) (defBody st) (defScope st) [] [] f fd
theorem pn_meth {j : Nat} {x y : Str} {n : Nat} {m : MN RdS} {e : Expr} {es : List Expr} {t : AN RdS} {px apos pos : Pos} {pl : Env → Sem Bool} (Z : Fam C P w K mg base N sc k top) (Rc : RdC K Cl) (c : CalM P w K mg base Cl j x n m) (hj : j ≤ k) (ha : PAn C K (rdR Cl) i (e :: es) t) (hy : okV N sc i y = true)
    (hx : (["number_of_line", "line_text", "place"] : List Str).contains x = false)
    (he : ∀ env, starEach (e :: es) env = (false, eval e env) :: starEach es env := by intro _; rfl) (hpl : ∀ env, (backTo pos (starEach es env)).any (·.1) = false := by intro _; rfl)
    (ht : ∀ env, eval (.Call (.Attribute (.Name y px) x apos) (e :: es) [] pos) env = (do
      let ov ← eval (.Name y px) env
      standAt apos.atName
      let (f, first) ← holding [ov] (getMethod ov x (pl env))
      callWith pos f first (backTo pos (starEach (e :: es) env)) (backToKw pos (keywordEach [] env))) := by intro _; rfl) : PEn C K (rdR Cl) i (.Call (.Attribute (.Name y px) x apos) (e :: es) [] pos) (nCall n m t) := by
  obtain ⟨f, fd, ps, hm, hn, Gf, b⟩ := c.ex
  obtain ⟨ta, ha, sa⟩ := ha.ex
  refine ⟨tMeth Cl x (spN (rdR Cl) K n m) [] E0 (tVar i) ta, fun X c => ?_, fun δ F H σ ρ s W R st hr Q q => ?_⟩
  · have e1 := Z.prog X c
    have e2 := Z.wo X c
    have e3 := Z.K_ X c
    have e4 := Z.mg_ X c
    have e5 := Z.base_ X c
    exact pe_meth (pl := pl X.env) (F := by rw [e1, e2, e3, e4, e5]; exact Gf) (pe_lk Z hy c) (by rw [e3]; exact Rc.cl) (by rw [e3]; exact hm) ((Z.room X c).mono hj) (by rw [e3]; exact b) .nil pass0 (ha X c) (he X.env) (hpl X.env) (ht X.env)
  · refine ⟨.ref δ.1, R.lk, δ.1, δ.2, rdF s, rfl, st.1, ?_, sa δ F H σ ρ s _ R st hr _ fun vs ds s1 F1 H1 hw a1 r1 => ?_⟩
    · simp only [List.contains_cons, List.contains_nil, Bool.or_false, Bool.or_eq_false_iff] at hx
      unfold rdF
      simp only [List.lookup_cons, hx.1, hx.2.1, hx.2.2, List.lookup_nil]
    · obtain ⟨hl, hw⟩ := hw
      exact ⟨δ, F1, ds, s1, vs, W, by rw [List.append_nil]; rfl, hl, a1.ex, (R.aft st a1).av, r1, a1.st, hw, fun v d s2 F2 H2 hw2 a2 r2 => q v d s2 F2 H2 hw2 (a1.trans a2) r2⟩
theorem pn_meth0 {j : Nat} {x y : Str} {m : MN RdS} {px apos pos : Pos} {pl : Env → Sem Bool} (Z : Fam C P w K mg base N sc k top) (Rc : RdC K Cl) (c : CalM P w K mg base Cl j x 0 m) (hj : j ≤ k) (hy : okV N sc i y = true)
    (hx : (["number_of_line", "line_text", "place"] : List Str).contains x = false)
    (ht : ∀ env, eval (.Call (.Attribute (.Name y px) x apos) [] [] pos) env = (do
      let ov ← eval (.Name y px) env
      standAt apos.atName
      let (f, first) ← holding [ov] (getMethod ov x (pl env))
      callWith pos f first (backTo pos (starEach [] env)) (backToKw pos (keywordEach [] env))) := by intro _; rfl) : PEn C K (rdR Cl) i (.Call (.Attribute (.Name y px) x apos) [] [] pos) (nCall 0 m nNil) := by
  obtain ⟨f, fd, ps, hm, hn, Gf, b⟩ := c.ex
  refine ⟨tMeth Cl x (spN (rdR Cl) K 0 m) [] E0 (tVar i) tNil, fun X c => ?_, fun δ F H σ ρ s W R st hr Q q => ?_⟩
  · have e1 := Z.prog X c
    have e2 := Z.wo X c
    have e3 := Z.K_ X c
    have e4 := Z.mg_ X c
    have e5 := Z.base_ X c
    exact pe_meth0 (pl := pl X.env) (F := by rw [e1, e2, e3, e4, e5]; exact Gf) (pe_lk Z hy c) (by rw [e3]; exact Rc.cl) (by rw [e3]; exact hm) ((Z.room X c).mono hj) (by rw [e3]; exact b) .nil pass0 (ht X.env)
  · refine ⟨.ref δ.1, R.lk, δ.1, δ.2, rdF s, rfl, st.1, ?_, ?_⟩
    · simp only [List.contains_cons, List.contains_nil, Bool.or_false, Bool.or_eq_false_iff] at hx
      unfold rdF
      simp only [List.lookup_cons, hx.1, hx.2.1, hx.2.2, List.lookup_nil]
    · obtain ⟨hl, hw⟩ := hr
      exact ⟨δ, F, [], s, [], W, rfl, rfl, R.r.ex, R.av, .nil, st, hw, fun v d s2 F2 H2 hw2 a2 r2 => q v d s2 F2 H2 hw2 a2 r2⟩
theorem calM_of {x qual : Str} {st : Stmt} {n nN : Nat} {ps : List Str} {b : BN RdS} (D : DM K Cl x qual st) (S : FnScope N ps (defScope st)) (hN : N.length = nN) (hn : ps.length = n + 1)
    (hb : ∀ (kV doc pm : Value) (an : Option Addr) (cdv ct : Value) (us : List Value), us.length = ps.length → bindArgs (PySem.W.fnOf x qual (defArgs st) (defBody st) (defScope st) Value.none kV doc pm an cdv ct) { pos := us } = pure (ps.zip us))
    (h : ∀ f, Fam (Bod P w K mg base N qual (defScope st) f k) P w K mg base N (defScope st) k true → PSsn (Bod P w K mg base N qual (defScope st) f k) K (rdR Cl) 0 (defBody st) b) : CalM P w K mg base Cl (k + 1) x n (runN nN b) := by
  obtain ⟨f, fd, hm, F⟩ := D
  subst hN
  exact ⟨f, fd, ps, hm, hn, fn_reg F S hn (h f (fam_bod S.nd)), F.bindsN hb⟩
theorem calM_zero {x qual : Str} {st : Stmt} {j n : Nat} {ps : List Str} (D : DM K Cl x qual st) (hn : ps.length = n + 1)
    (hb : ∀ (kV doc pm : Value) (an : Option Addr) (cdv ct : Value) (us : List Value), us.length = ps.length → bindArgs (PySem.W.fnOf x qual (defArgs st) (defBody st) (defScope st) Value.none kV doc pm an cdv ct) { pos := us } = pure (ps.zip us)) : CalM P w K mg base Cl j x n (fun _ _ _ => False) := by
  obtain ⟨f, fd, hm, F⟩ := D
  exact ⟨f, fd, ps, hm, hn, ⟨fun vs H Q E h => (spN_none h).elim, fun A outer s H args us vs Q E _ _ _ _ h => (spN_none h).elim⟩, F.bindsN hb⟩
/-- slices of the text -/
def nCut {S : Type} (a : EN S) (l u : EN S) : EN S := fun ρ s W => a ρ s fun d s1 => l ρ s1 fun x s2 => ∃ p, x = .int p ∧ u ρ s2 fun y s3 => ∃ q r, y = .int q ∧ fCut d (some p) (some q) = some r ∧ W r s3
theorem pn_slice {G : Reg} (Z : Fam C P w K mg base N sc k top) {e lo hi : Expr} {a l u : EN G.S} {pos p2 : Pos} (he : PEn C K G i e a) (hl : PEn C K G i lo l) (hu : PEn C K G i hi u) : PEn C K G i (.Subscript e (.Slice (some lo) (some hi) none p2) pos) (nCut a l u) := by
  obtain ⟨te, he, se⟩ := he.ex
  obtain ⟨tl, hl, sl⟩ := hl.ex
  obtain ⟨tu, hu, su⟩ := hu.ex
  refine ⟨tSl (rSl K) te (tPart tl) (tPart tu), fun X c => by have := pe_slice (p2 := p2) (pos := pos) (sl_A (X := X)) (he X c) (po_some (hl X c)) (po_some (hu X c)); rw [Z.K_ X c] at this; exact this, fun δ F H σ ρ s W R st hr Q q => ?_⟩
  refine se δ F H σ ρ s _ R st hr _ fun v d s1 F1 H1 hw a1 r1 => ?_
  refine sl δ F1 H1 σ ρ s1 _ (R.aft st a1) a1.st hw _ fun v2 x s2 F2 H2 hw a2 r2 => ?_
  have R2 := (R.aft st a1).aft a1.st a2
  obtain ⟨p, rfl, hw⟩ := hw
  refine ⟨p, rp_int r2, su δ F2 H2 σ ρ s2 _ R2 a2.st hw _ fun v3 y s3 F3 H3 hw a3 r3 => ?_⟩
  obtain ⟨q', r, rfl, e2, hw⟩ := hw
  refine ⟨q', rp_int r3, ?_⟩
  have a13 := (a1.trans a2).trans a3
  have q2 : ∀ v F' H', Same H3 H' → Gr F3 F' H3 → Same F' H' → Rp K F' v r → Q v H' := fun v F' H' s4 g f r4 => q v r s3 F' H' hw (a13.trans (Aft.pure a3.st s4 g f)) r4
  have rd := Rp.mono (a2.gr.1.trans a3.gr.1) _ _ r1
  have f3 := a3.ex
  unfold fCut at e2
  split at e2
  · cases e2
    obtain ⟨b, vs, rfl, h1, h2⟩ := rp_lst rd
    exact .inl ⟨b, vs, rfl, .inl (.inl (f3 _ _ h1)), fun p hp => rv_lst f3 (cutV_rp h2) q2 hp⟩
  · cases e2
    obtain ⟨b, vs, rfl, h1, h2⟩ := rp_tup rd
    refine .inr (.inl ⟨b, vs, rfl, sqT_mono f3 h1, fun hw => ?_, fun _ p hp => rv_tup f3 (cutV_rp h2) q2 hp⟩)
    rw [h2.length] at hw
    rw [cutD_all hw] at q2
    exact rv_here f3 rd q2
  · split at e2
    · rename_i hz
      cases e2
      cases rd
      exact .inr (.inr ⟨_, rfl, by rw [sizeLine_eq]; exact hz, rv_here f3 (.str _) q2⟩)
    · cases e2
  · cases e2
end
end Pd

set_option maxHeartbeats 2000000
/-! Pd18: list(d.values()), dict(a dict of the module), [.. for k, v in d.items() ..]. -/
namespace Pd
open PySem PySem.Spec PyProof.Rows L2
section
variable {X : Cx} {pins : List (Addr × Obj)} {σ : L2.St} {H : Hp} {s : Shared}
def viewOf (v d : Addr) : HO := .ext fun h => h.IsValuesView v d
/-- d.values() as a value -/
def tVals (td : TE) : TE := fun σ H Q => td σ H fun x H1 => ∃ d kvs, x = .ref d ∧ H1 d = some (.dK kvs) ∧ ∀ v, H1 v = none → Q (.ref v) (upd H1 v (viewOf v d))
theorem pe_vals {e : Expr} {td : TE} {apos cpos : Pos} (he : PE X e td) (hbase : attributeBase e "values" X.env (eval e X.env) = eval e X.env) (hline : (apos.endLine == cpos.line) = true) : PE X (.Call (.Attribute e "values" apos) [] [] cpos) (tVals td) := by
  refine ⟨fun pins s σ H Q I h => ?_⟩
  refine wpAny_Call_method (T := "dict") (id := "dict.values") hbase rfl hline F.plainAttrs_dict F.slot_dict_values F.type_dict_values (thn (he.run pins s σ H _ I h) fun u s1 ⟨x, H1, I1, rx, d, kvs, ex, hd, q⟩ => ?_)
  subst ex
  obtain rfl : u = Value.ref d := rx
  obtain ⟨z, hs, vs, rel, hm⟩ := dk_rd I1.hok (.inl hd)
  refine ⟨hm.typeIs, hm.mapOf.noDict, ?_⟩
  have hf : H1 s1.heap.objs.size = none := I1.hok.fresh (Nat.le_refl _)
  have I2 : Inv X pins σ (upd H1 s1.heap.objs.size (viewOf s1.heap.objs.size d)) { s1 with heap := s1.heap.push { cls := .type "dict_values", data := .fields #[.ref d] } } :=
    I1.laid (t' := s1.toks) (fun b u e => Heap.get?_push_of_some _ e) (Nat.le_refl _) ⟨⟨_, Heap.get?_push_size _ rfl, rfl, rfl⟩, ⟨_, Heap.get?_push_size _ rfl⟩, fun h1 h2 ⟨o, ho, r⟩ k => ⟨o, k o ho, r⟩⟩
  show wpAny _ _ (callWith cpos (.builtin "dict.values") [.ref d] [] []) _ X.xe s1
  exact method_meetsIn F.slot_dict_values F.entry_dict_values rfl (PySem.evalArgs_none ⟨rfl, hm.typeIs, F.args_dict_values_1 _, _, meets_dict_values (mixKind X.prog X.w) d hs, ⟨vs, hm⟩, ⟨.ref s1.heap.objs.size, _, I2, rfl, q _ hf⟩⟩)
theorem kv_vals {kvs : List (Key × V)} {vs : List (Key × Value)} (r : KV kvs vs) : Vals (kvs.map (·.2)) (vs.map (·.2)) := by
  induction r with
  | nil => exact .nil
  | cons h _ ih => exact .cons h.2 ih
/-- list(a view) -/
def rListV : List V → Hp → VK → Prop := fun xs H Q => ∃ v d kvs, xs = [.ref v] ∧ H v = some (viewOf v d) ∧ H d = some (.dK kvs) ∧ ∀ p, H p = none → Q (.ref p) (upd H p (.lst (kvs.map (·.2))))
theorem cr_listV (hc : X.calm = true) : CallR X (.type "list") rListV := by
  intro pins s σ H xs us Q I r h
  obtain ⟨v, d, kvs, rfl, hv, hd, q⟩ := h
  have := Vals.ref1 r
  subst this
  obtain ⟨z, hs, vs, rel, hm⟩ := dk_rd I.hok (.inl hd)
  obtain ⟨ep, hat⟩ := hm.dictAt
  have hview : s.heap.IsValuesView v d := (I.hok v _ hv).1
  refine PySem.W.kdl_call (PySem.W.kdl_values (knd := mixKind X.prog X.w) (kvs := vs) (ep := ep)) (I.ok.hd hc) ⟨hview, hat⟩ (by rw [← rel.length]; exact z) fun h' tk acc c hk hS hacc => ?_
  have hf : H s.heap.objs.size = none := I.hok.fresh (Nat.le_refl _)
  have hvals : acc.toList = vs.map (·.2) := PySem.W.kdl_vals_eq _ (by rw [Array.length_toList]; exact hacc.1) fun j u hu => hacc.2 j u (by rw [← Array.getElem?_toList]; exact hu)
  refine ⟨.ref s.heap.objs.size, upd H s.heap.objs.size (.lst (kvs.map (·.2))), I.laid (t' := tk) hk (Nat.le_refl _) ⟨by rw [List.length_map]; exact z, acc.toList, c, by rw [hvals]; exact kv_vals rel, by rw [Array.toArray_toList]; exact hS⟩, rfl, q _ hf⟩
/-- a dict of the written part -/
def TabK (P : Program) (w : World) (K : PySem.W.Frag) (p : Addr) (kvs : List (Key × V)) : Prop := (p == sysModules) = false ∧ kvs.length ≤ sizeLine ∧ ∃ es n vs, K.lookup p = some ⟨.type "dict", none, .dict es n, #[]⟩ ∧ KV kvs vs ∧ KeysOf (mixKind P w) es ∧ Pairs (mixKind P w) es.toList vs ∧ (vs.map (·.1)).Nodup
def rDictK (P : Program) (w : World) (K : PySem.W.Frag) : List V → Hp → VK → Prop := fun xs H Q => ∃ a kvs, xs = [.ref a] ∧ TabK P w K a kvs ∧ ∀ p, H p = none → Q (.ref p) (upd H p (.dK kvs))
theorem cr_dictK : CallR X (.type "dict") (rDictK X.prog X.w X.K) := by
  intro pins s σ H xs us Q I r h
  obtain ⟨a, kvs, rfl, ⟨hd, z, es, n, vs, hk, rel, ko, pr, nd⟩, q⟩ := h
  have := Vals.ref1 r
  subst this
  have dd : s.heap.DictOf (mixKind X.prog X.w) a vs := ⟨_, es, n, I.kIn a _ hk, ⟨rfl, rfl, rfl⟩, rfl, ko, pr, nd⟩
  refine kt_call_dict hd dd (by rw [← rel.length]; exact z) fun h' dd' hs => ?_
  refine ⟨.ref s.heap.objs.size, _, I.laid (a := s.heap.objs.size) (o := .dK kvs) (t' := s.toks) (fun b q hq => ?_) (Nat.le_refl _) (dk_new z (beq_eq_false_iff_ne.mpr (Ne.symm (Nat.ne_of_lt I.big))) rel dd'), rfl, q _ (I.hok.fresh (Nat.le_refl _))⟩
  exact (hs.2 b (Nat.ne_of_lt (Heap.lt_size hq))).trans (Heap.get?_push_of_some _ hq)
end

/-! ### as data -/
section
variable {C : Cx → Prop} {P : Program} {w : World} {K : PySem.W.Frag} {mg : Str → Option Value} {base : Heap} {N : List Str} {sc : Scope} {k : Nat} {top : Bool}
def rDkVals (i : Nat) : E1 := fun ρ => (dkAt i ρ).map fun m => .list (m.map (·.2))
theorem DkAll.vals {F : Hp} : ∀ {l : List (Key × V)} {m : List (Str × PyData)}, DkAll K F l m → RpAll K F (l.map (·.2)) (m.map (·.2))
  | [], [], _ => .nil
  | (_, _) :: _, (_, _) :: _, ⟨_, h2, h3⟩ => .cons h2 (DkAll.vals h3)
  | [], _ :: _, h => h.elim
  | _ :: _, [], h => h.elim
/-- list(x.values()) -/
theorem pd_dkVals (Z : Fam C P w K mg base N sc k top) (i : Nat) {x : Str} {px apos cpos p pos : Pos} (h : okV N sc i x = true) (hm : mg "list" = none) (hg : okG sc "list" = true)
    (hb : ∀ env, attributeBase (.Name x px) "values" env (eval (.Name x px) env) = eval (.Name x px) env := by intro _; rfl) (hl : (apos.endLine == cpos.line) = true := by rfl)
    (hs : ∀ env, starEach [.Call (.Attribute (.Name x px) "values" apos) [] [] cpos] env = [(false, eval (.Call (.Attribute (.Name x px) "values" apos) [] [] cpos) env)] := by intro _; rfl) :
    PEd C K (.Call (.Name "list" p) [.Call (.Attribute (.Name x px) "values" apos) [] [] cpos] [] pos) (rDkVals i) := by
  unfold okG at hg
  simp only [Bool.and_eq_true] at hg
  refine ⟨tCB rListV (tCons (tVals (tVar i)) tNil), fun X c => pe_callTy (cr_listV (Z.calm X c)) (Z.gl hg.1 c) (by rw [Z.mg_ X c]; exact hm) (by decide +kernel) (pa_cons (pe_vals (pe_ow (pos := px) Z h c) (hb X.env) hl) pa_nil (hs X.env)) (plainN_n hg.2) (plainN_d hg.2) (hs X.env) rfl, fun F H σ ρ d R e Q q => ?_⟩
  unfold rDkVals at e
  cases e2 : dkAt i ρ with
  | none => rw [e2] at e; cases e
  | some m =>
    rw [e2] at e
    cases e
    obtain ⟨u, hu, a, ks, rfl, hF, hd⟩ := R.cell i _ (dkAt_ok e2)
    refine ⟨.ref a, hu, a, ks, rfl, R.ex _ _ hF, fun v hv => ?_⟩
    have s1 : Same H (upd H v (viewOf v a)) := same_upd hv
    refine ⟨v, a, ks, rfl, upd_same, s1 _ _ (R.ex _ _ hF), fun p hp => ?_⟩
    have f1 := R.ex.trans s1
    exact rv_lst f1 hd.vals (fun v' F' H' s2 g f r => q v' F' H' (s1.trans s2) ⟨g.1, fun b o z => (g.2 b o z).elim .inl fun n => .inr (s1.free n)⟩ f r) hp
end
end Pd

set_option maxHeartbeats 2000000
/-! Pd19: [.. for k, v in d.items() if ..]. -/
namespace Pd
open PySem PySem.Spec PyProof.Rows L2
section
variable {C : Cx → Prop} {P : Program} {w : World} {K : PySem.W.Frag} {mg : Str → Option Value} {base : Heap} {N : List Str} {sc : Scope} {k : Nat} {top : Bool}
/-- data need not the dicts -/
def NoDK (F F2 : Hp) : Prop := ∀ a o, F a = some o → (∀ u, o ≠ .dK u) → (∀ b u, o ≠ .frz b (.dK u)) → F2 a = some o
theorem NoDK.sqT {F F2 : Hp} (h : NoDK F F2) {a : Addr} {xs : List V} (q : SqT K F a xs) : SqT K F2 a xs := by
  rcases q with (q | ⟨o, q⟩) | q
  · exact .inl (.inl (h _ _ q (fun _ z => by cases z) (fun _ _ z => by cases z)))
  · exact .inl (.inr ⟨o, h _ _ q (fun _ z => by cases z) (fun _ _ z => by cases z)⟩)
  · exact .inr q
mutual
theorem Rp.noDK {F F2 : Hp} (h : NoDK F F2) : ∀ (d : PyData) (v : V), Rp K F v d → Rp K F2 v d
  | .none, _, r => by cases r; exact .non
  | .bool b, _, r => by cases r; exact .bl b
  | .int i, _, r => by cases r; exact .int i
  | .str x, _, r => by cases r; exact .str x
  | .list ds, _, r => by
    cases r with
    | lst h1 h2 => exact .lst (h _ _ h1 (fun _ z => by cases z) (fun _ _ z => by cases z)) (RpAll.noDK h ds _ h2)
  | .tuple ds, _, r => by
    cases r with
    | tup h1 h2 => exact .tup (h.sqT h1) (RpAll.noDK h ds _ h2)
  | .dict _, _, r => by cases r
theorem RpAll.noDK {F F2 : Hp} (h : NoDK F F2) : ∀ (ds : List PyData) (vs : List V), RpAll K F vs ds → RpAll K F2 vs ds
  | [], _, r => by cases r; exact .nil
  | d :: ds, _, r => by
    cases r with
    | cons h1 h2 => exact .cons (Rp.noDK h d _ h1) (RpAll.noDK h ds _ h2)
end
theorem DkAll.noDK {F F2 : Hp} (h : NoDK F F2) : ∀ {l : List (Key × V)} {m : List (Str × PyData)}, DkAll K F l m → DkAll K F2 l m
  | [], [], _ => trivial
  | (_, _) :: _, (_, _) :: _, ⟨h1, h2, h3⟩ => ⟨h1, Rp.noDK h _ _ h2, DkAll.noDK h h3⟩
  | [], _ :: _, h => h.elim
  | _ :: _, [], h => h.elim
/-- the other dicts forgotten, this one frozen -/
def offDk : Option Cell → Option Cell
  | some (.dk _) => none
  | some (.fz _) => none
  | some (.nk _) => none
  | c => c
def lockD (i : Nat) (m : List (Str × PyData)) (ρ : Sl) : Sl := (ρ.map offDk).set i (some (.fz m))
def itemsD (m : List (Str × PyData)) : List PyData := m.map fun p => .tuple [.str p.1, p.2]
def fzItems (i : Nat) : A1 := fun ρ => match ρ[i]? with
  | some (some (.fz m)) => some (itemsD m)
  | _ => none
def rItems (i : Nat) (g : TgD) (t : T1) (e : E1) (vs : List Nat) : E1 := fun ρ => (dkAt i ρ).bind fun m => rLc (fzItems i) g t e vs (lockD i m ρ)
theorem items_get {F : Hp} {ks : List (Key × V)} {m : List (Str × PyData)} (h : DkAll K F ks m) {j : Nat} {d : PyData} (e : (itemsD m)[j]? = some d) : ∃ x v dv, ks[j]? = some (.inr x, v) ∧ d = .tuple [.str x, dv] ∧ Rp K F v dv := by
  induction m generalizing ks j with
  | nil => simp [itemsD] at e
  | cons p m ih =>
    obtain ⟨x, dv⟩ := p
    cases ks with
    | nil => exact h.elim
    | cons q ks =>
      obtain ⟨kk, v⟩ := q
      obtain ⟨h1, h2, h3⟩ := h
      subst h1
      cases j with
      | zero =>
        have e' : some (PyData.tuple [.str x, dv]) = some d := e
        cases e'
        exact ⟨x, v, dv, rfl, rfl, h2⟩
      | succ j => exact ih h3 e
theorem pd_items (Z : Fam C P w K mg base N sc k top) (i : Nat) {x : Str} {px apos cpos tpos pos : Pos} {elt : Expr} {elts : List Expr} {kk : Nat} {ifs : List Expr} {scope : Scope} (own : List (Str × Nat)) {g : TgD} {t : T1} {e : E1} {is : List Nat} (h : okV N sc i x = true) (hat : TgAt g is)
    (hg : PGd (Blk C scope) K (.Tuple elts kk tpos) g) (ht : PTsd (Blk C scope) K ifs t) (he : PEd (Blk C scope) K elt e) (ok : blkC N sc scope own = true) (hin : tgIn is (own.map (·.2)) = true)
    (hb : ∀ env, attributeBase (.Name x px) "items" env (eval (.Name x px) env) = eval (.Name x px) env := by intro _; rfl) (hl : (apos.endLine == cpos.line) = true := by rfl)
    (hs : ∀ env y, foldedSetIterable (.Call (.Attribute (.Name x px) "items" apos) [] [] cpos) env y = pure y := by intro _ _; rfl) :
    PEd C K (.ListComp elt [⟨.Tuple elts kk tpos, .Call (.Attribute (.Name x px) "items" apos) [] [] cpos, ifs, 0⟩] scope pos) (rItems i g t e (own.map (·.2))) := by
  obtain ⟨gx, hg, sg⟩ := hg.ex
  obtain ⟨tt, ht, st⟩ := ht.ex
  obtain ⟨te, he, se⟩ := he.ex
  have si : ∀ F H σ ρ ds, Rel K F H σ ρ → fzItems i ρ = some ds → ∀ R : It → Hp → Prop, (∀ J F1 H1, Same H H1 → Gr F F1 H → Same F1 H1 → Walk K J F1 ds → R J H1) → iItems (tVar i) σ H R := fun F H σ ρ ds R e0 W q => by
    unfold fzItems at e0
    split at e0
    · rename_i m e1
      cases e0
      obtain ⟨u, hu, d, o, ks, rfl, hF, hd⟩ := R.cell i _ e1
      refine ⟨.ref d, hu, d, o, ks, rfl, R.ex _ _ hF, q _ F H (Same.refl H) (Gr.refl F H) R.ex ⟨fun j H1 s hlen => ⟨s _ _ hF, by rw [hd.length]; simpa [itemsD] using hlen⟩, fun j H1 dd s hj => ⟨s _ _ hF, ?_⟩, fun j Fi H1 dd y H' s1 s2 hj hy => ?_⟩⟩
      · rw [hd.length]
        have := (List.getElem?_eq_some_iff.mp hj).1
        simpa [itemsD] using this
      · obtain ⟨T, kx, v, hkv, rfl, hT, rfl⟩ := hy
        obtain ⟨x', v', dv, h1, rfl, h3⟩ := items_get hd hj
        rw [h1] at hkv
        cases hkv
        exact ⟨same_upd hT, upd Fi T (.tup [.str x', v]), gr_upd s2 hT, same_updB s2, .tup (.inl (.inl upd_same)) (.cons (.str x') (.cons (Rp.mono (s1.trans (same_upd (s2.free hT))) _ _ h3) .nil))⟩
    · cases e0
  refine ⟨tLockE (tLc (iItems (tVar i)) gx tt te (own.map (·.2))), fun X c => pe_lock (pe_lc (Z.calm X c) (Z.ndX c) (pi_items (pe_ow (pos := px) Z h c) (hb X.env) hl) (by rw [Z.N_ X c, Z.sc_ X c]; exact blkOk_by ok) (fun s H A cl fp => hg _ ⟨X, s, H, cl, A, fp, c, rfl⟩)
    (fun s H A cl fp => ht _ ⟨X, s, H, cl, A, fp, c, rfl⟩) (fun s H A cl fp => he _ ⟨X, s, H, cl, A, fp, c, rfl⟩) (hs X.env)), fun F H σ ρ d R e0 Q q => ?_⟩
  unfold rItems at e0
  cases e2 : dkAt i ρ with
  | none => rw [e2] at e0; cases e0
  | some m =>
    rw [e2] at e0
    have e3 : rLc (fzItems i) g t e (own.map (·.2)) (lockD i m ρ) = some d := e0
    obtain ⟨u, hu, a, ks, rfl, hF, hd⟩ := R.cell i _ (dkAt_ok e2)
    have hH : H a = some (.dK ks) := R.ex _ _ hF
    refine ⟨a, .dK ks, hH, trivial, fun od => ?_⟩
    have nd : NoDK F (upd F a (.frz od (.dK ks))) := fun b o hb n1 n2 => by
      have : b ≠ a := fun z => by subst z; rw [hF] at hb; cases hb; exact n1 _ rfl
      rw [upd_ne this]; exact hb
    have R1 : Rel K (upd F a (.frz od (.dK ks))) (upd H a (.frz od (.dK ks))) σ (lockD i m ρ) := by
      refine ⟨by simp [lockD, R.len], same_updB R.ex, fun j c ej => ?_, fun j1 j2 d1 d2 b ne z1 z2 z3 z4 => ?_⟩
      · unfold lockD at ej
        rcases set_none_of ej with ⟨qj, z⟩ | ⟨ne, z⟩
        · subst qj
          subst z
          exact ⟨.ref a, hu, a, od, ks, rfl, upd_same, DkAll.noDK nd hd⟩
        · rw [List.getElem?_map] at z
          cases z0 : ρ[j]? with
          | none => rw [z0] at z; cases z
          | some c0 =>
            rw [z0] at z
            have z' : offDk c0 = some c := Option.some.inj z
            cases c0 with
            | none => cases z'
            | some c1 =>
              cases c1 with
              | dk _ => cases z'
              | fz _ => cases z'
              | nk _ => cases z'
              | vl dd =>
                cases z'
                obtain ⟨v, hv, hc⟩ := R.cell j _ z0
                exact ⟨v, hv, Rp.noDK nd _ _ hc⟩
              | ow ds =>
                cases z'
                obtain ⟨v, hv, b, vs, rfl, h1, h2, h3⟩ := R.cell j _ z0
                have : b ≠ a := fun z => by subst z; rw [hF] at h2; cases h2
                exact ⟨_, hv, b, vs, rfl, by rw [upd_ne this]; exact h1, by rw [upd_ne this]; exact h2, RpAll.noDK nd _ _ h3⟩
      · have back : ∀ {j : Nat} {dd : List PyData}, (lockD i m ρ)[j]? = some (some (.ow dd)) → ρ[j]? = some (some (.ow dd)) := fun {j dd} z => by
          unfold lockD at z
          rcases set_none_of z with ⟨_, z⟩ | ⟨_, z⟩
          · cases z
          · rw [List.getElem?_map] at z
            cases z0 : ρ[j]? with
            | none => rw [z0] at z; cases z
            | some c0 =>
              rw [z0] at z
              have z' : offDk c0 = some (.ow dd) := Option.some.inj z
              cases c0 with
              | none => cases z'
              | some c1 => cases c1 <;> first | (cases z'; rfl) | (cases z'; done)
        exact R.inj j1 j2 d1 d2 b ne (back z1) (back z2) z3 z4
    refine lc_ev hat hin si sg st se R1 e3 _ fun v F' H' s1 g1 f1 r1 => ⟨s1 _ _ upd_same, ?_⟩
    have hFa : F' a = some (.frz od (.dK ks)) := g1.1 _ _ upd_same
    refine q v (upd F' a (.dK ks)) (upd H' a (.dK ks)) (fun b o hb => ?_) ⟨fun b o hb => ?_, fun b o hb => ?_⟩ (same_updB f1) (Rp.noDK (F := F') (fun b o hb n1 n2 => ?_) _ _ r1)
    · by_cases qq : b = a
      · subst qq; rw [hH] at hb; cases hb; exact upd_same
      · rw [upd_ne qq]
        exact s1 _ _ (by rw [upd_ne qq]; exact hb)
    · by_cases qq : b = a
      · subst qq; rw [hF] at hb; cases hb; exact upd_same
      · rw [upd_ne qq]
        exact g1.1 _ _ (by rw [upd_ne qq]; exact hb)
    · by_cases qq : b = a
      · subst qq
        rw [upd_same] at hb
        exact .inl (by rw [hF]; exact hb)
      · rw [upd_ne qq] at hb
        rcases g1.2 b o hb with z | z
        · rw [upd_ne qq] at z; exact .inl z
        · rw [upd_ne qq] at z; exact .inr z
    · have : b ≠ a := fun z => by subst z; rw [hFa] at hb; cases hb; exact n2 _ _ rfl
      rw [upd_ne this]
      exact hb
end
end Pd

set_option maxHeartbeats 2000000
/-! Pd20: a method that takes a dict; the reader made. -/
namespace Pd
open PySem PySem.Spec PyProof.Rows L2
section
variable {C : Cx → Prop} {P : Program} {w : World} {K : PySem.W.Frag} {mg : Str → Option Value} {base : Heap} {N : List Str} {sc : Scope} {k : Nat} {top : Bool} {G : Reg} {i : Nat} {Cl : Addr}
def spND (G : Reg) (K : PySem.W.Frag) (m0 : List (Str × PyData)) (n : Nat) (m : MN G.S) : Sp := fun vs H Q _ => ∃ δ F ds s vs' d ks W, vs = G.lk δ :: .ref d :: vs' ∧ ds.length = n ∧ Same F H ∧ (∀ a, G.D δ a → F a = none) ∧ F d = some (.dK ks) ∧ DkAll K F ks m0 ∧ RpAll K F vs' ds ∧ G.St δ s H ∧ m ds s W ∧ ∀ v d s' F' H', W d s' → Aft G δ F H s' F' H' → Rp K F' v d → Q v H'
def startND (m0 : List (Str × PyData)) (n : Nat) (ds : List PyData) : Sl := none :: some (.dk m0) :: (ds.map (fun d => some (.vl d)) ++ List.replicate (n - (ds.length + 2)) none)
def runND {S : Type} (m0 : List (Str × PyData)) (n : Nat) (b : BN S) : MN S := fun ds s W => b (startND m0 n ds) s fun fl s' => match fl with
  | .rt d => W d s'
  | .nx _ => W .none s'
  | _ => False
theorem startND_at {m0 : List (Str × PyData)} {n : Nat} {ds : List PyData} {j : Nat} {c : Cell} (h : (startND m0 n ds)[j]? = some (some c)) : (j = 1 ∧ c = .dk m0) ∨ ∃ d m, c = .vl d ∧ j = m + 2 ∧ ds[m]? = some d := by
  unfold startND at h
  cases j with
  | zero => cases h
  | succ j =>
    rw [List.getElem?_cons_succ] at h
    cases j with
    | zero =>
      have h' : some (some (Cell.dk m0)) = some (some c) := h
      cases h'
      exact .inl ⟨rfl, rfl⟩
    | succ m =>
      rw [List.getElem?_cons_succ] at h
      by_cases hm : m < ds.length
      · rw [List.getElem?_append_left (by simpa using hm), List.getElem?_map] at h
        cases e : ds[m]? with
        | none => rw [e] at h; cases h
        | some d => rw [e] at h; cases h; exact .inr ⟨d, m, rfl, rfl, e⟩
      · rw [List.getElem?_append_right (by simpa using hm), List.getElem?_replicate] at h
        split at h <;> cases h
theorem fn_regD {x qual : Str} {params : Arguments} {body : List Stmt} {dvs : List V} {kws : List (Str × V)} {f : Addr} {fd : FuncData} {ps : List Str} {b : BN G.S} {n : Nat} {m0 : List (Str × PyData)} (Fu : FunD K x qual params body sc dvs kws f fd) (S : FnScope N ps sc) (hn : ps.length = n + 2)
    (h : PSsn (Bod P w K mg base N qual sc f k) K G 0 body b) : FnOk P w K mg base CX0 (k + 1) f fd ps (spND G K m0 n (runND m0 N.length b)) := by
  obtain ⟨t, h, sd⟩ := h.ex
  refine Fu.ok S (fun vs H Q E q => ?_) fun cdv A outer s0 H vs Q E hr q => ⟨t, PSs.nox (h _ ⟨cdv, A, outer, s0, H, E, hr, rfl⟩), ?_⟩
  · obtain ⟨δ, F, ds, s, vs', d, ks, W, rfl, hl, _, _, _, _, r, _⟩ := q
    rw [List.length_cons, List.length_cons, r.length, hl, hn]
  · obtain ⟨δ, F, ds, s, vs', dd, ks, W, rfl, hl, sF, av, hdd, hks, r, st, e, q⟩ := q
    have hlv : vs'.length = n := by rw [r.length, hl]
    have hnN : n + 2 ≤ N.length := by
      have h1 := congrArg List.length S.pre
      rw [List.length_take, hn] at h1
      omega
    have no : ∀ {j : Nat} {d1 : List PyData}, (startND m0 N.length ds)[j]? = some (some (.ow d1)) → False := fun e1 => by
      rcases startND_at e1 with ⟨_, z⟩ | ⟨d, m, z, _⟩ <;> cases z
    have RN : RelSN G δ 0 K F (butD (G.D δ) H) F H (L2.start N (G.lk δ :: .ref dd :: vs')) (startND m0 N.length ds) := by
      refine ⟨⟨⟨?_, sF, fun j c e1 => ?_, fun j kk d1 d2 a ne e1 e2 => (no e1).elim⟩, av, fun j d1 a e1 => (no e1).elim, rfl, rfl⟩, fun a o e1 => (butD_some e1).2, Gr.refl _ _, fun j d1 a e1 => (no e1).elim, fun a d => butD_in d⟩
      · unfold L2.start startND
        simp [hlv, hl]
      · rcases startND_at e1 with ⟨rfl, rfl⟩ | ⟨d, m, rfl, rfl, e2⟩
        · exact ⟨.ref dd, rfl, dd, ks, rfl, hdd, hks⟩
        · obtain ⟨v, hv, rv⟩ := r.get e2
          refine ⟨v, ?_, rv⟩
          have hm : m < vs'.length := (List.getElem?_eq_some_iff.mp hv).1
          unfold L2.start
          rw [List.getElem?_append_left (by simp; omega), List.getElem?_map, List.getElem?_cons_succ, List.getElem?_cons_succ, hv]
          rfl
    have aft : ∀ {F' H' s'}, Same (butD (G.D δ) H) H' → Gr F F' (butD (G.D δ) H) → Same F' H' → (∀ a, G.D δ a → F' a = none) → G.St δ s' H' → Aft G δ F H s' F' H' := fun {F' H' s'} sb g f av' st' =>
      ⟨fun a o d e1 => sb a o (by rw [butD_out d]; exact e1), ⟨g.1, fun a o e1 => (g.2 a o e1).elim .inl fun z => by
        by_cases d : G.D δ a
        · rw [av' a d] at e1; cases e1
        · rw [butD_out d] at z; exact .inr z⟩, f, st'⟩
    refine sd δ F _ F H _ _ s _ _ RN st e fun fl s' hw => ?_
    cases fl with
    | rt d => exact fun v F' H' sb g f av' st' r' => q v d s' F' H' hw (aft sb g f av' st') r'
    | nx ρ' => exact fun σ' F' H' R' st' => q .non .none s' F' H' hw (aft R'.sb R'.gr R'.n.r.ex R'.n.av st') .non
    | bk ρ' => exact hw.elim
    | ct ρ' => exact hw.elim
structure CalMD (P : Program) (w : World) (K : PySem.W.Frag) (mg : Str → Option Value) (base : Heap) (Cl : Addr) (m0 : List (Str × PyData)) (j : Nat) (x : Str) (n : Nat) (m : MN RdS) : Prop where
  ex : ∃ f fd ps, Meth K Cl x f ∧ ps.length = n + 2 ∧ FnOk P w K mg base CX0 j f fd ps (spND (rdR Cl) K m0 n m) ∧ Binds K fd ps []
theorem calMD_of {x qual : Str} {st : Stmt} {n nN : Nat} {ps : List Str} {b : BN RdS} {m0 : List (Str × PyData)} (D : DM K Cl x qual st) (S : FnScope N ps (defScope st)) (hN : N.length = nN) (hn : ps.length = n + 2)
    (hb : ∀ (kV doc pm : Value) (an : Option Addr) (cdv ct : Value) (us : List Value), us.length = ps.length → bindArgs (PySem.W.fnOf x qual (defArgs st) (defBody st) (defScope st) Value.none kV doc pm an cdv ct) { pos := us } = pure (ps.zip us))
    (h : ∀ f, Fam (Bod P w K mg base N qual (defScope st) f k) P w K mg base N (defScope st) k true → PSsn (Bod P w K mg base N qual (defScope st) f k) K (rdR Cl) 0 (defBody st) b) : CalMD P w K mg base Cl m0 (k + 1) x n (runND m0 nN b) := by
  obtain ⟨f, fd, hm, F⟩ := D
  subst hN
  exact ⟨f, fd, ps, hm, hn, fn_regD F S hn (h f (fam_bod S.nd)), F.bindsN hb⟩
theorem calMD_zero {x qual : Str} {st : Stmt} {j n : Nat} {ps : List Str} {m0 : List (Str × PyData)} (D : DM K Cl x qual st) (hn : ps.length = n + 2)
    (hb : ∀ (kV doc pm : Value) (an : Option Addr) (cdv ct : Value) (us : List Value), us.length = ps.length → bindArgs (PySem.W.fnOf x qual (defArgs st) (defBody st) (defScope st) Value.none kV doc pm an cdv ct) { pos := us } = pure (ps.zip us)) : CalMD P w K mg base Cl m0 j x n (fun _ _ _ => False) := by
  obtain ⟨f, fd, hm, F⟩ := D
  have no : ∀ vs H Q E, spND (rdR Cl) K m0 n (fun _ _ _ => False) vs H Q E → False := fun vs H Q E h => by
    obtain ⟨δ, F, ds, s, vs', d, ks, W, _, _, _, _, _, _, _, _, e, _⟩ := h
    exact e
  exact ⟨f, fd, ps, hm, hn, ⟨fun vs H Q E h => (no _ _ _ _ h).elim, fun A outer s H args us vs Q E _ _ _ _ h => (no _ _ _ _ h).elim⟩, F.bindsN hb⟩
/-- a table of the module that is copied -/
def TabC (w : World) (K : PySem.W.Frag) (mg : Str → Option Value) (x : Str) (m0 : List (Str × PyData)) : Prop := ∃ p kvs, mg x = some (.ref p) ∧ (∀ P, TabK P w K p kvs) ∧ ∀ F, DkAll K F kvs m0
/-- self.m(dict(TABLE), e, ..) -/
theorem pn_methD {j : Nat} {x y tb : Str} {n : Nat} {m : MN RdS} {m0 : List (Str × PyData)} {es : List Expr} {t : AN RdS} {px pd pt dpos apos pos : Pos} {pl : Env → Sem Bool} (Z : Fam C P w K mg base N sc k top) (Rc : RdC K Cl) (c : CalMD P w K mg base Cl m0 j x n m) (hj : j ≤ k) (T : TabC w K mg tb m0) (hdm : mg "dict" = none)
    (ha : PAn C K (rdR Cl) i es t) (hy : okV N sc i y = true) (hgd : okG sc "dict" = true) (hgt : okG sc tb = true) (hx : (["number_of_line", "line_text", "place"] : List Str).contains x = false)
    (he : ∀ env, starEach (.Call (.Name "dict" pd) [.Name tb pt] [] dpos :: es) env = (false, eval (.Call (.Name "dict" pd) [.Name tb pt] [] dpos) env) :: starEach es env := by intro _; rfl) (hpl : ∀ env, (backTo pos (starEach es env)).any (·.1) = false := by intro _; rfl)
    (hs : ∀ env, starEach [.Name tb pt] env = [(false, eval (.Name tb pt) env)] := by intro _; rfl)
    (ht : ∀ env, eval (.Call (.Attribute (.Name y px) x apos) (.Call (.Name "dict" pd) [.Name tb pt] [] dpos :: es) [] pos) env = (do
      let ov ← eval (.Name y px) env
      standAt apos.atName
      let (f, first) ← holding [ov] (getMethod ov x (pl env))
      callWith pos f first (backTo pos (starEach (.Call (.Name "dict" pd) [.Name tb pt] [] dpos :: es) env)) (backToKw pos (keywordEach [] env))) := by intro _; rfl) :
    PEn C K (rdR Cl) i (.Call (.Attribute (.Name y px) x apos) (.Call (.Name "dict" pd) [.Name tb pt] [] dpos :: es) [] pos) (nCall n m t) := by
  unfold okG at hgd hgt
  simp only [Bool.and_eq_true] at hgd hgt
  obtain ⟨f, fd, ps, hm, hn, Gf, b⟩ := c.ex
  obtain ⟨p, kvs, hmt, hT, hD⟩ := T
  obtain ⟨ta, ha, sa⟩ := ha.ex
  refine ⟨tMeth Cl x (spND (rdR Cl) K m0 n m) [] E0 (tVar i) (tCons (tCB (rDictK P w K) (tCons (tC (.ref p)) tNil)) ta), fun X c => ?_, fun δ F H σ ρ s W R st hr Q q => ?_⟩
  · have e1 := Z.prog X c
    have e2 := Z.wo X c
    have e3 := Z.K_ X c
    have e4 := Z.mg_ X c
    have e5 := Z.base_ X c
    have hd : CallR X (.type "dict") (rDictK P w K) := by
      have := cr_dictK (X := X)
      rw [e1, e2, e3] at this
      exact this
    exact pe_meth (pl := pl X.env) (F := by rw [e1, e2, e3, e4, e5]; exact Gf) (pe_lk Z hy c) (by rw [e3]; exact Rc.cl) (by rw [e3]; exact hm) ((Z.room X c).mono hj) (by rw [e3]; exact b) .nil pass0
      (pa_cons (pe_callTy hd (Z.gl hgd.1 c) (by rw [e4]; exact hdm) (by decide +kernel) (pa_cons (pe_glob (Z.gl hgt.1 c) (by rw [e4]; exact hmt) rfl (plainN_d hgt.2)) pa_nil (hs X.env)) (plainN_n hgd.2) (plainN_d hgd.2) (hs X.env) rfl) (ha X c) (he X.env)) (he X.env) (hpl X.env) (ht X.env)
  · refine ⟨.ref δ.1, R.lk, δ.1, δ.2, rdF s, rfl, st.1, ?_, p, kvs, rfl, hT P, fun d hd => ?_⟩
    · simp only [List.contains_cons, List.contains_nil, Bool.or_false, Bool.or_eq_false_iff] at hx
      unfold rdF
      simp only [List.lookup_cons, hx.1, hx.2.1, hx.2.2, List.lookup_nil]
    · have a0 : Aft (rdR Cl) δ F H s (upd F d (.dK kvs)) (upd H d (.dK kvs)) := Aft.pure st (same_upd hd) (gr_upd R.r.ex hd) (same_updB R.r.ex)
      refine sa δ _ _ σ ρ s _ (R.aft st a0) a0.st hr _ fun vs ds s1 F1 H1 hw a1 r1 => ?_
      obtain ⟨hl, hw⟩ := hw
      exact ⟨δ, F1, ds, s1, vs, d, kvs, W, by rw [List.append_nil]; rfl, hl, a1.ex, ((R.aft st a0).aft a0.st a1).av, a1.gr.1 _ _ upd_same, hD F1, r1, a1.st, hw, fun v d s2 F2 H2 hw2 a2 r2 => q v d s2 F2 H2 hw2 ((a0.trans a1).trans a2) r2⟩
end
end Pd

set_option maxHeartbeats 2000000
/-! Pd21: calls with keywords alone; repr; a def where nothing is being shown. -/
namespace Pd
open PySem PySem.Spec PyProof.Rows L2
section
variable {X : Cx} {CX : CXT} {k : Nat} {f : Addr} {fd : FuncData} {ps ks : List Str} {sp : Sp} {E : XK} {x : Str} {p pos : Pos} {kws : List Keyword} {tk : TA} {g : List Value → List Value → List Value} {gV : List V → List V → List V}
theorem pe_callK0 (F : FnOk X.prog X.w X.K X.mg X.base CX k f fd ps sp) (hr : Room k X.A) (hg : Gl X x) (hm : X.mg x = some (.ref f)) (hk : PySem.W.keepIn X.K (.ref f) = true) (hb : KBinds X.K fd ps ks g gV) (hx : Passes CX X E)
    (hkw : PK X kws tk) (hall : (backToKw pos (keywordEach kws X.env)).all (·.1.isSome) = true) (hks : (backToKw pos (keywordEach kws X.env)).filterMap (·.1) = ks)
    (hdb : (x == ("__debug__" : Str)) = false) (hpl : ((backTo pos (starEach [] X.env)).any (·.1) || (backToKw pos (keywordEach kws X.env)).any (·.1.isNone)) = false) :
    PE X (.Call (.Name x p) [] kws pos) (tCallK sp gV E tNil tk) := by
  refine ⟨fun pins s σ H Q I h => ?_⟩
  refine wpAny_Call_Name_kw (ld_glob I hg hm ?_ hdb)
  refine PySem.W.callWith_KW0 (h₀ := X.base) I.ok.mod.kin hk hall ?_ hpl
  refine thn (hkw.run pos pins s σ H _ I h) fun ws s2 ⟨zs, H2, I2, rz, q2⟩ => ⟨I2.kIn, ?_⟩
  rw [hks]
  exact run_fnk (us := []) F hr hb hx I2 .nil rz q2
end
section
variable {C : Cx → Prop} {P : Program} {w : World} {K : PySem.W.Frag} {mg : Str → Option Value} {base : Heap} {N : List Str} {sc : Scope} {k : Nat} {top : Bool}
structure PKd (C : Cx → Prop) (K : PySem.W.Frag) (kws : List Keyword) (r : A1) : Prop where
  ex : ∃ ta, (∀ X, C X → PK X kws ta) ∧ ∀ F H σ ρ ds, Rel K F H σ ρ → r ρ = some ds → EvA K ta σ F H ds
theorem pkd_nil : PKd C K [] aNil := ⟨tNil, fun _ _ => pk_nil, fun F H σ ρ ds R e Q q => by
  cases e
  exact q [] F H (Same.refl H) (Gr.refl F H) R.ex .nil⟩
theorem pkd_cons {nm : Option Str} {e : Expr} {kpos : Pos} {kws : List Keyword} {a : E1} {t : A1} (ha : PEd C K e a) (ht : PKd C K kws t) : PKd C K (⟨nm, e, kpos⟩ :: kws) (aCons a t) := by
  obtain ⟨ta, ha, sa⟩ := ha.ex
  obtain ⟨tt, ht, st⟩ := ht.ex
  refine ⟨tCons ta tt, fun X c => pk_cons (ha X c) (ht X c), fun F H σ ρ ds R e Q q => ?_⟩
  obtain ⟨d, r, e1, e2, rfl⟩ := aCons_ok e
  exact sa F H σ ρ d R e1 _ fun v F1 H1 s1 g1 f1 r1 => st F1 H1 σ ρ r (R.grow s1 g1 f1) e2 _ fun vs F2 H2 s2 g2 f2 r2 => q _ F2 H2 (s1.trans s2) (g1.trans s1 g2) f2 (.cons (Rp.mono g2.1 _ _ r1) r2)
/-- the keywords' values in the parameters' order: one; two turned about -/
inductive Perm12 : List Str → List Str → Bool → Prop
  | one (a : Str) : Perm12 [a] [a] false
  | two (a b : Str) : Perm12 [a, b] [b, a] true
def turn {α : Type} (b : Bool) (l : List α) : List α := if b then l.reverse else l
theorem turn_len {α : Type} (b : Bool) (l : List α) : (turn b l).length = l.length := by cases b <;> simp [turn]
theorem RpAll.turn {F : Hp} {vs : List V} {ds : List PyData} (b : Bool) (h : RpAll K F vs ds) : RpAll K F (Pd.turn b vs) (Pd.turn b ds) := by
  cases b
  · exact h
  · exact h.reverse
theorem Vals.turn {vs : List V} {us : List Value} (b : Bool) (h : Vals vs us) : Vals (Pd.turn b vs) (Pd.turn b us) := by
  cases b
  · exact h
  · exact Vals.reverse h
def rCallK (n : Nat) (b : Bool) (m : List PyData → Option PyData) (a : A1) : E1 := fun ρ => match a ρ with
  | some ds => if ds.length = n then m (turn b ds) else none
  | none => none
/-- a def with its parameters' names -/
structure CalP (P : Program) (w : World) (K : PySem.W.Frag) (mg : Str → Option Value) (base : Heap) (j : Nat) (x : Str) (ps : List Str) (m : List PyData → Option PyData) : Prop where
  ex : ∃ f fd, mg x = some (.ref f) ∧ PySem.W.keepIn K (.ref f) = true ∧ FnOk P w K mg base CX0 j f fd ps (spD K ps.length m) ∧ Binds K fd ps [] ∧ ∃ o, K.lookup f = some o ∧ o.data = .func fd
theorem CalP.cal {j n : Nat} {x : Str} {ps : List Str} {m : List PyData → Option PyData} (c : CalP P w K mg base j x ps m) (hn : ps.length = n) : Cal P w K mg base j x n m := by
  obtain ⟨f, fd, h1, h2, h3, h4, h5⟩ := c.ex
  subst hn
  exact ⟨f, fd, ps, h1, h2, rfl, h3, h4, h5⟩
theorem calP_of {x : Str} {st : Stmt} {nN : Nat} {ps : List Str} {b : B1} (D : DF K mg x st []) (S : FnScope N ps (defScope st)) (hN : N.length = nN)
    (hb : ∀ (kV doc pm : Value) (an : Option Addr) (cdv ct : Value) (us : List Value), us.length = ps.length → bindArgs (PySem.W.fnOf x x (defArgs st) (defBody st) (defScope st) Value.none kV doc pm an cdv ct) { pos := us } = pure (ps.zip us))
    (h : ∀ f, Fam (Bod P w K mg base N x (defScope st) f k) P w K mg base N (defScope st) k true → PSsd (Bod P w K mg base N x (defScope st) f k) K (defBody st) b) : CalP P w K mg base (k + 1) x ps (runB nN b) := by
  obtain ⟨f, fd, hm, F⟩ := D
  subst hN
  exact ⟨f, fd, hm, F.kp, fn_data F S (h f (fam_bod S.nd)), F.bindsN hb, FunD.look F⟩
def kwG {α : Type} (bt : Bool) (no : α) (n : Nat) (us ws : List α) : List α := match us with
  | [] => turn bt ws
  | _ :: _ => List.replicate n no
theorem vals_non : ∀ n : Nat, Vals (List.replicate n V.non) (List.replicate n Value.none)
  | 0 => .nil
  | n + 1 => .cons rfl (vals_non n)
theorem pd_callK {j : Nat} {x : Str} {ps : List Str} {m : List PyData → Option PyData} {st : Stmt} {kws : List Keyword} {ks : List Str} (bt : Bool) {t : A1} {p pos : Pos} (Z : Fam C P w K mg base N sc k top) (c : CalP P w K mg base j x ps m) (D : DF K mg x st []) (hj : j ≤ k) (ha : PKd C K kws t) (h : okG sc x = true)
    (hb : ∀ (kV doc pm : Value) (an : Option Addr) (cdv ct : Value) (ws : List Value), ws.length = ps.length → bindArgs (PySem.W.fnOf x x (defArgs st) (defBody st) (defScope st) Value.none kV doc pm an cdv ct) ⟨[], ks.zip ws⟩ = pure (ps.zip (turn bt ws)))
    (hall : ∀ env, (backToKw pos (keywordEach kws env)).all (·.1.isSome) = true := by intro _; rfl) (hks : ∀ env, (backToKw pos (keywordEach kws env)).filterMap (·.1) = ks := by intro _; rfl)
    (hpl : ∀ env, ((backTo pos (starEach [] env)).any (·.1) || (backToKw pos (keywordEach kws env)).any (·.1.isNone)) = false := by intro _; rfl) : PEd C K (.Call (.Name x p) [] kws pos) (rCallK ps.length bt m t) := by
  unfold okG at h
  simp only [Bool.and_eq_true] at h
  obtain ⟨f, fd, hm, kp, G, b, o, lk, ho⟩ := c.ex
  obtain ⟨f', fd', hm', FD⟩ := D
  rw [hm] at hm'
  cases hm'
  have efd : fd' = fd := by
    obtain ⟨o', lk', ho'⟩ := FunD.look FD
    rw [lk] at lk'
    cases lk'
    rw [ho] at ho'
    cases ho'
    rfl
  subst efd
  have KB : KBinds K fd' ps ks (kwG bt (Value.none) (ps.length + 1)) (kwG bt V.non (ps.length + 1)) := by
    refine ⟨fun s us ws _ hl => ?_, fun {vs us zs ws} r1 r2 => ?_⟩
    · cases us with
      | cons u us => simp [kwG] at hl
      | nil =>
        have hl' : ws.length = ps.length := by simpa [kwG, turn_len] using hl
        obtain ⟨oc, od, dV, kV, doc, pm, an, cdv, ct, osl, rfl, lk, hcd, hD, hK⟩ := FD.ex
        rcases hD with ⟨_, rfl⟩ | ⟨e, _⟩
        · exact .of_eq (hb kV doc pm an cdv ct ws hl')
        · exact absurd rfl e
    · cases r1 with
      | nil => exact Vals.turn bt r2
      | cons _ _ => exact vals_non _
  obtain ⟨ta, ha, sa⟩ := ha.ex
  refine ⟨tCallK (spD K ps.length m) (kwG bt V.non (ps.length + 1)) E0 tNil ta, fun X c => ?_, fun F H σ ρ d R e Q q => ?_⟩
  · have e1 := Z.prog X c
    have e2 := Z.wo X c
    have e3 := Z.K_ X c
    have e4 := Z.mg_ X c
    have e5 := Z.base_ X c
    exact pe_callK0 (F := by rw [e1, e2, e3, e4, e5]; exact G) ((Z.room X c).mono hj) (Z.gl h.1 c) (by rw [e4]; exact hm) (by rw [e3]; exact kp) (by rw [e3]; exact KB) pass0 (ha X c) (hall X.env) (hks X.env) (plainN_d h.2) (hpl X.env)
  · unfold rCallK at e
    split at e
    · split at e
      · rename_i ds e1 hl
        refine sa F H σ ρ ds R e1 _ fun vs F1 H1 s1 g1 f1 r1 => ⟨F1, turn bt ds, d, by rw [turn_len]; exact hl, f1, RpAll.turn bt r1, e, fun v F2 H2 s2 g2 f2 r2 => q v F2 H2 (s1.trans s2) (g1.trans s1 g2) f2 r2⟩
      · cases e
    · cases e
/-! ### repr -/
def fRepr (d : PyData) : Option PyData := match d with
  | .tuple ds => if (PyData.tuple ds).showable && (!(PyData.tuple ds).hasDict && (decide ((PyData.tuple ds).depth ≤ 60) && decide ((PyData.tuple ds).shown.length ≤ 16777216))) then some (.str (PyData.tuple ds).shown) else none
  | _ => none
theorem pd_repr {e : Expr} {r : E1} {p pos : Pos} (Z : Fam C P w K mg base N sc k top) (hgd : ∀ X, C X → X.A.guards = some []) (he : PEd C K e r) (hm : mg "repr" = none) (h : okG sc "repr" = true)
    (hs : ∀ env, starEach [e] env = [(false, eval e env)] := by intro _; rfl) : PEd C K (.Call (.Name "repr" p) [e] [] pos) (rE1 fRepr r) := by
  unfold okG at h
  simp only [Bool.and_eq_true] at h
  obtain ⟨te, he, se⟩ := he.ex
  refine ⟨tCB (rRepr K) (tCons te tNil), fun X c => ?_, fun F H σ ρ d R e Q q => ?_⟩
  · have := cr_repr (X := X) (hgd X c) (by have := Z.units c; omega)
    rw [Z.K_ X c] at this
    exact pe_callB this (Z.gl h.1 c) (by rw [Z.mg_ X c]; exact hm) (by decide +kernel) (pa_cons (he X c) pa_nil (hs X.env)) (plainN_n h.2) (plainN_d h.2) (hs X.env) rfl
  · obtain ⟨x, e1, e2⟩ := bind1 e
    refine se F H σ ρ x R e1 _ fun v F1 H1 s1 g1 f1 r1 => ?_
    unfold fRepr at e2
    split at e2
    · rename_i ds
      split at e2
      · rename_i hh
        cases e2
        simp only [Bool.and_eq_true, Bool.not_eq_true', decide_eq_true_eq] at hh
        obtain ⟨a, vs, rfl, _⟩ := rp_tup r1
        exact ⟨a, _, rfl, Rp.dp f1 _ _ r1, hh.1, hh.2.1, hh.2.2.1, by rw [sizeLine_eq]; exact hh.2.2.2, q _ F1 H1 s1 g1 f1 (.str _)⟩
      · cases e2
    · cases e2
end
end Pd

set_option maxHeartbeats 2000000
/-! Pd22: defs called where nothing is being shown (guards). -/
namespace Pd
open PySem PySem.Spec PyProof.Rows L2
structure FnG (P : Program) (w : World) (K : PySem.W.Frag) (mg : Str → Option Value) (base : Heap) (k : Nat) (f : Addr) (fd : FuncData) (ps : List Str) (sp : Sp) : Prop where
  len : ∀ vs H Q E, sp vs H Q E → vs.length = ps.length
  run : ∀ (A : Around) (outer : List Env) (s : Shared) (H : Hp) (args : Args) (us : List Value) (vs : List V) (Q : VK) (E : XK), Room k A → A.guards = some [] → Env0 P w K mg base A outer s H → BindsTo s fd args (ps.zip us) → Vals vs us → sp vs H Q E →
    codeAny (model P w) A (.call (.ref f) args) (CR CX0 outer P w H s Q E) s
theorem fnG_of {P : Program} {w : World} {K : PySem.W.Frag} {mg : Str → Option Value} {base : Heap} {k : Nat} {x qual : Str} {params : Arguments} {body : List Stmt} {scope : Scope} {dvs : List V} {kws : List (Str × V)} {f : Addr} {fd : FuncData} {N ps : List Str} {sp : Sp}
    (Fu : FunD K x qual params body scope dvs kws f fd) (S : FnScope N ps scope) (len : ∀ vs H Q E, sp vs H Q E → vs.length = ps.length)
    (hbody : ∀ (cdv : Value) (A : Around) (outer : List Env) (s : Shared) (H : Hp) (vs : List V) (Q : VK) (E : XK), Room k (A.deeper (envOfC qual scope s.heap.objs.size f cdv)) → A.guards = some [] → sp vs H Q E →
      ∃ t, PSs (cxOf CX0 P w K mg base N qual scope f cdv A outer s H E) body t ∧ t { nx := fun _ H' => Q .non H', rt := Q } (L2.start N vs) H) : FnG P w K mg base (k + 1) f fd ps sp := by
  obtain ⟨oc, od, dV, kV, doc, pm, an, cdv, ct, osl, rfl, lk, hcd, _, _⟩ := Fu.ex
  refine ⟨len, fun A outer s H args us vs Q E hr hgd e0 hb r hsp => ?_⟩
  have hl := len _ _ _ _ hsp
  have KX : K.In s.heap := e0.mod.kin.keeps fun b o e => (e0.bs b o e).1
  have lim : s.heap.NoLimit := e0.mod.nolimit.keeps fun b o e => (e0.bs b o e).1
  have hkind : ∀ y ∈ ps.zip us, scope.names.lookup y.1 = some .local ∨ (scope.names.lookup y.1 = some .cell ∧ ((cellsFrom (s.heap.objs.size + 1) scope.names []).lookup y.1).isSome = true) := fun ⟨n, v⟩ hy => by
    rcases S.par n (List.of_mem_zip hy).1 with q | q
    · exact .inl q
    · exact .inr ⟨q, PySem.W.cellsFrom_some _ _ _ (.inl q)⟩
  refine codeAny_call_function hr.depth (KX _ _ lk) rfl S.co S.gen rfl (PySem.W.codeRec_of KX hcd) (hb _ _ _ _ ?_)
  refine wpAny_newFunctionEnv_cells S.kind hkind fun env he s1 x => ?_
  subst he
  refine ⟨lim.keeps x.toInCall.keep, codeAny_func ?_⟩
  obtain ⟨t, ht, hq⟩ := hbody cdv A outer s H vs Q E (hr.deeper _) hgd hsp
  have I : Inv (cxOf CX0 P w K mg base N qual scope f cdv A outer s H E) [] (L2.start N vs) H s1 := inv_start S hr.hd e0 hl r x
  refine wpAny_mono (ht.run [] s1 (L2.start N vs) H _ I hq) (fun fl s' hs => ?_) fun e s' hs => hs
  have fin : ∀ {σ' : L2.St} {H' : Hp} {v : V} {u : Value}, Inv (cxOf CX0 P w K mg base N qual scope f cdv A outer s H E) [] σ' H' s' → RelV v u → Q v H' → CE outer P w H s Q u s' :=
    fun {σ' H' v u} J rv q => ⟨v, H', J.os, J.bare, J.base, J.hok, rv, q⟩
  cases fl with
  | ret u =>
    obtain ⟨v, σ', H', J, rv, q⟩ := hs
    exact fin J rv q
  | next =>
    obtain ⟨σ', H', J, q⟩ := hs
    exact fin (v := V.non) (u := Value.none) J rfl q
  | brk =>
    obtain ⟨_, _, _, q⟩ := hs
    exact False.elim q
  | cont =>
    obtain ⟨_, _, _, q⟩ := hs
    exact False.elim q
/-- the contexts of such a body -/
def BodG (P : Program) (w : World) (K : PySem.W.Frag) (mg : Str → Option Value) (base : Heap) (N : List Str) (qual : Str) (sc : Scope) (f : Addr) (k : Nat) : Cx → Prop := fun X => ∃ cdv A outer s H E, Room k (A.deeper (envOfC qual sc s.heap.objs.size f cdv)) ∧ A.guards = some [] ∧ X = (cxOf CX0 P w K mg base N qual sc f cdv A outer s H E).nox
section
variable {P : Program} {w : World} {K : PySem.W.Frag} {mg : Str → Option Value} {base : Heap} {N : List Str} {sc : Scope} {k : Nat} {C : Cx → Prop} {top : Bool}
theorem BodG.guards {qual : Str} {f : Addr} : ∀ X, BodG P w K mg base N qual sc f k X → X.A.guards = some [] := fun X ⟨_, _, _, _, _, _, _, g, e⟩ => by
  subst e
  exact g
theorem fam_bodG {qual : Str} {f : Addr} (nd : N.Nodup) : Fam (BodG P w K mg base N qual sc f k) P w K mg base N sc k true where
  prog := fun X ⟨_, _, _, _, _, _, _, _, e⟩ => by subst e; rfl
  wo := fun X ⟨_, _, _, _, _, _, _, _, e⟩ => by subst e; rfl
  K_ := fun X ⟨_, _, _, _, _, _, _, _, e⟩ => by subst e; rfl
  mg_ := fun X ⟨_, _, _, _, _, _, _, _, e⟩ => by subst e; rfl
  base_ := fun X ⟨_, _, _, _, _, _, _, _, e⟩ => by subst e; rfl
  N_ := fun X ⟨_, _, _, _, _, _, _, _, e⟩ => by subst e; rfl
  sc_ := fun X ⟨_, _, _, _, _, _, _, _, e⟩ => by subst e; rfl
  calm := fun X ⟨_, _, _, _, _, _, _, _, e⟩ => by subst e; rfl
  room := fun X ⟨_, _, _, _, _, _, r, _, e⟩ => by subst e; exact r
  fn := fun _ X ⟨_, _, _, _, _, _, _, _, e⟩ => by subst e; exact fun _ => rfl
  xe := fun X ⟨_, _, _, _, _, _, _, _, e⟩ => by subst e; rfl
  nd := nd
/-- a def of data, where nothing is being shown -/
structure CalG (P : Program) (w : World) (K : PySem.W.Frag) (mg : Str → Option Value) (base : Heap) (j : Nat) (x : Str) (n : Nat) (m : List PyData → Option PyData) : Prop where
  ex : ∃ f fd ps, mg x = some (.ref f) ∧ PySem.W.keepIn K (.ref f) = true ∧ ps.length = n ∧ FnG P w K mg base j f fd ps (spD K n m) ∧ Binds K fd ps []
theorem calG_of {x : Str} {st : Stmt} {n nN : Nat} {ps : List Str} {b : B1} (D : DF K mg x st []) (S : FnScope N ps (defScope st)) (hN : N.length = nN) (hn : ps.length = n)
    (hb : ∀ (kV doc pm : Value) (an : Option Addr) (cdv ct : Value) (us : List Value), us.length = ps.length → bindArgs (PySem.W.fnOf x x (defArgs st) (defBody st) (defScope st) Value.none kV doc pm an cdv ct) { pos := us } = pure (ps.zip us))
    (h : ∀ f, Fam (BodG P w K mg base N x (defScope st) f k) P w K mg base N (defScope st) k true → (∀ X, BodG P w K mg base N x (defScope st) f k X → X.A.guards = some []) → PSsd (BodG P w K mg base N x (defScope st) f k) K (defBody st) b) : CalG P w K mg base (k + 1) x n (runB nN b) := by
  obtain ⟨f, fd, hm, F⟩ := D
  subst hn
  subst hN
  refine ⟨f, fd, ps, hm, F.kp, rfl, ?_, F.bindsN hb⟩
  obtain ⟨t, h, s⟩ := (h f (fam_bodG S.nd) BodG.guards).ex
  refine fnG_of F S (fun vs H Q E q => ?_) fun cdv A outer s0 H vs Q E hr hg q => ⟨t, PSs.nox (h _ ⟨cdv, A, outer, s0, H, E, hr, hg, rfl⟩), ?_⟩
  · obtain ⟨F, ds, d, hl, _, r, _⟩ := q
    rw [r.length, hl]
  · obtain ⟨F, ds, d, hl, sF, r, e, q⟩ := q
    unfold runB at e
    cases eb : b (startD N.length ds) with
    | none => rw [eb] at e; cases e
    | some fl =>
      rw [eb] at e
      refine s F H F H _ _ fl _ ⟨rel_start sF r, Same.refl H, Gr.refl F H, fun i ds' a z => absurd z no_own⟩ eb ?_
      cases fl with
      | rt d' => cases e; exact q
      | nx ρ' => cases e; exact fun σ' F' H' R' => q .non F' H' R'.sb R'.gr R'.r.ex .non
      | bk ρ' => cases e
      | ct ρ' => cases e
/-- f(e, ..) of such a def -/
theorem pd_callG {j : Nat} {x : Str} {n : Nat} {m : List PyData → Option PyData} {e : Expr} {es : List Expr} {t : A1} {p pos : Pos} (Z : Fam C P w K mg base N sc k top) (hgd : ∀ X, C X → X.A.guards = some []) (c : CalG P w K mg base j x n m) (hj : j ≤ k) (ha : PAd C K (e :: es) t) (h : okG sc x = true)
    (he : ∀ env, starEach (e :: es) env = (false, eval e env) :: starEach es env := by intro _; rfl) (hpl : ∀ env, (backTo pos (starEach es env)).any (·.1) = false := by intro _; rfl) : PEd C K (.Call (.Name x p) (e :: es) [] pos) (rCall n m t) := by
  unfold okG at h
  simp only [Bool.and_eq_true] at h
  obtain ⟨f, fd, ps, hm, kp, hn, G, b⟩ := c.ex
  obtain ⟨ta, ha, sa⟩ := ha.ex
  refine ⟨tCall (spD K n m) [] E0 ta, fun X c => ?_, fun F H σ ρ d R e Q q => ?_⟩
  · have e1 := Z.prog X c
    have e2 := Z.wo X c
    have e3 := Z.K_ X c
    have e4 := Z.mg_ X c
    have e5 := Z.base_ X c
    refine ⟨fun pins s σ H Q I h0 => ?_⟩
    refine wpAny_Call_Name_kw (ld_glob I (Z.gl h.1 c) (by rw [e4]; exact hm) ?_ (plainN_d h.2))
    refine PySem.W.callWith_K (h₀ := X.base) I.ok.mod.kin (by rw [e3]; exact kp) (thn ((ha X c).run pos pins s σ H _ I h0) fun us s1 ⟨vs, H1, I1, r, q⟩ => ⟨I1.kIn, ?_⟩) (he X.env) (hpl X.env)
    have q' : spD K n m (vs ++ []) H1 Q E0 := q
    rw [List.append_nil] at q'
    have hl : us.length = ps.length := by rw [← r.length]; exact G.len _ _ _ _ q'
    have G' : FnG X.prog X.w X.K X.mg X.base j f fd ps (spD K n m) := by rw [e1, e2, e3, e4, e5]; exact G
    have b' : Binds X.K fd ps [] := by rw [e3]; exact b
    have hbd := b' s1 us I1.kIn (by rw [List.append_nil]; exact hl)
    rw [List.append_nil] at hbd
    refine wpAny_call (codeAny_mono (G'.run X.A X.stack s1 H1 ⟨us, []⟩ us vs Q E0 ((Z.room X c).mono hj) (hgd X c) I1.env0 hbd r q') fun r' s' hq => ?_)
    cases r' with
    | error e => exact pass0 pins σ H1 s1 e s' I1 hq
    | ok fl =>
      cases fl with
      | ret u => exact I1.after hq
      | next => exact False.elim hq
      | brk => exact False.elim hq
      | cont => exact False.elim hq
  · unfold rCall at e
    split at e
    · split at e
      · rename_i ds e1 hl
        refine sa F H σ ρ ds R e1 _ fun vs F1 H1 s1 g1 f1 r1 => ⟨F1, ds, d, hl, f1, by rw [List.append_nil]; exact r1, e, fun v F2 H2 s2 g2 f2 r2 => q v F2 H2 (s1.trans s2) (g1.trans s1 g2) f2 r2⟩
      · cases e
    · cases e
end
end Pd

set_option maxHeartbeats 2000000
/-! Pd23: dicts whose keys are nested tuples. -/
namespace Pd
open PySem PySem.Spec PyProof.Rows L2
mutual
theorem nestedIs_of {h : Heap} : ∀ (k : NestedKey) (u : Value) (as : List Addr), Reads h u k.data as → NestedIs h k u
  | .none, u, as, r => by
    have r' : Reads h u .none as := by simpa [NestedKey.data] using r
    cases r'
    exact .none
  | .num i, u, as, r => by
    have r' : Reads h u (.int i) as := by simpa [NestedKey.data] using r
    cases r'
    exact .int _ _
  | .text x, u, as, r => by
    have r' : Reads h u (.str x) as := by simpa [NestedKey.data] using r
    cases r'
    exact .text _ _
  | .tup ks, u, as, r => by
    have r' : Reads h u (.tuple (NestedKey.datas ks)) as := by simpa [NestedKey.data] using r
    cases r' with
    | tuple h1 h2 h3 h4 => exact .tup h1 h2 h3 (nestedAll_of ks _ _ h4)
theorem nestedAll_of {h : Heap} : ∀ (ks : List NestedKey) (us : List Value) (as : List Addr), ReadsAll h us (NestedKey.datas ks) as → NestedAll h ks us
  | [], us, as, r => by
    have r' : ReadsAll h us [] as := by simpa [NestedKey.datas] using r
    cases r'
    exact .nil
  | k :: ks, us, as, r => by
    have r' : ReadsAll h us (k.data :: NestedKey.datas ks) as := by simpa [NestedKey.datas] using r
    cases r' with
    | cons h1 h2 => exact .cons (nestedIs_of k _ _ h1) (nestedAll_of ks _ _ h2)
end
section
variable {X : Cx} {pins : List (Addr × Obj)} {σ : L2.St} {H F : Hp} {s : Shared}
theorem key_is (I : Inv X pins σ H s) (sF : Same F H) {b : Addr} {k : NestedKey} (hd : k.depth ≤ 8) (r : Rp X.K F (.ref b) k.data) : (nestedKind X.prog X.w).is s.heap k b := by
  obtain ⟨as, rd⟩ := Dp.reads I k.data (.ref b) (.ref b) (Rp.dp sF _ _ r) rfl
  exact ⟨nestedIs_of k _ _ rd, hd⟩
/-- the keys are fit: not deep, each once, their hashes as the model takes them -/
def NkFit (w : World) (m : List (NestedKey × Int × PyData)) : Prop := (∀ p ∈ m, p.1.depth ≤ 8 ∧ p.2.1 = p.1.hash w) ∧ (m.map (·.1)).Nodup
theorem nk_list {K : PySem.W.Frag} {w : World} : ∀ {es : List DictEntry} {m : List (NestedKey × Int × PyData)}, NkAll K F es m → (∀ p ∈ m, p.1.depth ≤ 8 ∧ p.2.1 = p.1.hash w) →
    ∃ xs : List (NestedKey × Addr × Value), es = xs.map (fun x => (⟨x.1.hash w, .ref x.2.1, x.2.2⟩ : DictEntry)) ∧ xs.map (·.1) = m.map (·.1) ∧ (∀ x ∈ xs, Rp K F (.ref x.2.1) x.1.data ∧ x.1.depth ≤ 8) ∧
      Paired (fun (x : NestedKey × Addr × Value) (p : NestedKey × Int × PyData) => x.1 = p.1 ∧ ∃ v, RelV v x.2.2 ∧ Rp K F v p.2.2) xs m
  | [], [], _, _ => ⟨[], rfl, rfl, fun _ h => (by cases h), .nil⟩
  | e :: es, (k, hh, d) :: m, ⟨⟨b, h1, h2⟩, h3, ⟨v, h4, h5⟩, h6⟩, hf => by
    obtain ⟨xs, g1, g2, g3, g4⟩ := nk_list h6 fun p hp => hf p (List.mem_cons_of_mem _ hp)
    obtain ⟨f1, f2⟩ := hf (k, hh, d) (List.mem_cons_self ..)
    refine ⟨(k, b, e.val) :: xs, ?_, by rw [List.map_cons, List.map_cons, g2], fun x hx => ?_, .cons ⟨rfl, v, h4, h5⟩ g4⟩
    · rw [List.map_cons, ← g1]
      obtain ⟨eh, ek, ev⟩ := e
      simp only at h1 h3
      have f2' : hh = k.hash w := f2
      rw [h1, h3, f2']
    · rcases List.mem_cons.mp hx with rfl | hx
      · exact ⟨h2, f1⟩
      · exact g3 x hx
  | [], _ :: _, h, _ => h.elim
  | _ :: _, [], h, _ => h.elim
theorem nk_dict (I : Inv X pins σ H s) (sF : Same F H) {d : Addr} {es : Array DictEntry} {ep : Nat} {m : List (NestedKey × Int × PyData)} (hH : H d = some (rawD d es ep)) (hk : NkAll X.K F es.toList m) (fit : NkFit X.w m) :
    ∃ xs : List (NestedKey × Addr × Value), s.heap.DictOfH (nestedKind X.prog X.w) d xs ∧ xs.map (·.1) = m.map (·.1) ∧ (∀ x ∈ xs, Rp X.K F (.ref x.2.1) x.1.data ∧ x.1.depth ≤ 8) ∧
      Paired (fun (x : NestedKey × Addr × Value) (p : NestedKey × Int × PyData) => x.1 = p.1 ∧ ∃ v, RelV v x.2.2 ∧ Rp X.K F v p.2.2) xs m := by
  obtain ⟨xs, g1, g2, g3, g4⟩ := nk_list hk fit.1
  have hraw : s.heap.DictRaw d es ep := (I.hok d _ hH).1
  obtain ⟨o, ho, hx, hd⟩ := hraw
  exact ⟨xs, ⟨o, es, ep, ho, hx, hd, g1, fun x hx => key_is I sF (g3 x hx).2 (g3 x hx).1, by rw [g2]; exact fit.2⟩, g2, g3, g4⟩
/-- d[k] -/
def rIxNk (K : PySem.W.Frag) (w : World) : R2 := fun x y H Q => ∃ d es ep F m b k hh dv, x = .ref d ∧ y = .ref b ∧ Same F H ∧ H d = some (rawD d es ep) ∧ (d == sysModules) = false ∧ NkAll K F es.toList m ∧ NkFit w m ∧ Rp K F (.ref b) k.data ∧ k.depth ≤ 8 ∧ (k, hh, dv) ∈ m ∧ ∀ v, Rp K F v dv → Q v H
theorem paired_mem {α β : Type} {R : α → β → Prop} : ∀ {xs : List α} {ys : List β} {y : β}, Paired R xs ys → y ∈ ys → ∃ x ∈ xs, R x y
  | _, _, _, .nil, h => by cases h
  | _, _, _, .cons r t, h => by
    rcases List.mem_cons.mp h with rfl | h
    · exact ⟨_, List.mem_cons_self .., r⟩
    · obtain ⟨x, h1, h2⟩ := paired_mem t h
      exact ⟨x, List.mem_cons_of_mem _ h1, h2⟩
theorem atKey_mem : ∀ {xs : List (NestedKey × Addr × Value)} {x : NestedKey × Addr × Value}, (xs.map (·.1)).Nodup → x ∈ xs → atKey xs x.1 = some x.2
  | y :: xs, x, nd, h => by
    rw [List.map_cons, List.nodup_cons] at nd
    unfold atKey
    rw [List.find?_cons]
    by_cases e : y.1 = x.1
    · rw [decide_eq_true e]
      rcases List.mem_cons.mp h with rfl | h
      · rfl
      · exact absurd (e ▸ List.mem_map_of_mem h) nd.1
    · rw [decide_eq_false e]
      rcases List.mem_cons.mp h with rfl | h
      · exact absurd rfl e
      · exact atKey_mem nd.2 h
theorem ix_nk (hu : X.A.units + 20 < cLine) : IxR X (rIxNk X.K X.w) := by
  intro value slice pins s σ H x y v u Q I rx ry h hs
  obtain ⟨d, es, ep, F, m, b, k, hh, dv, rfl, rfl, sF, hH, hd, hk, fit, rb, hdep, hmem, q⟩ := h
  obtain rfl : v = Value.ref d := rx
  obtain rfl : u = Value.ref b := ry
  obtain ⟨xs, hdict, hkeys, hxs, hp⟩ := nk_dict I sF hH hk fit
  obtain ⟨x, hx, e1, vv, h2, h3⟩ := paired_mem hp hmem
  have hnd : (xs.map (·.1)).Nodup := by rw [hkeys]; exact fit.2
  have hat : atKey xs k = some x.2 := by
    have e1' : x.1 = k := e1
    rw [← e1']
    exact atKey_mem hnd hx
  refine tail_any hdict.typeIs slot_dict_getitem.lookup (wpAny_getItem_heap (k := k) (by show X.A.in1.units + 8 < cLine; show X.A.units + 1 + 8 < cLine; omega) (key_is I sF hdep rb) hdict hat ?_) hs
  exact ⟨vv, H, I.tok _, h2, q vv h3⟩
/-- sorted(d): the keys, as data sorted -/
def rSortNk (K : PySem.W.Frag) (w : World) : List V → Hp → VK → Prop := fun vs H Q => ∃ d es ep F m, vs = [.ref d] ∧ Same F H ∧ H d = some (rawD d es ep) ∧ (d == sysModules) = false ∧ NkAll K F es.toList m ∧ NkFit w m ∧ m.length ≤ 1000 ∧
  PySem.W.AllAlike (m.map fun p => p.1.data) ∧ PySem.W.Sortable (m.map fun p => p.1.data) ∧ (∀ p ∈ m, p.1.data.depth ≤ 20) ∧
  ∀ (l : Addr) (bs : List Addr), H l = none → RpAll K F (bs.map V.ref) (((m.map fun p => p.1.data).mergeSort (PySem.W.dataLe false id))) → Q (.ref l) (upd H l (.lst (bs.map V.ref)))
mutual
theorem key_no_as {h : Heap} : ∀ (k : NestedKey) (u : Value) (as : List Addr), Reads h u k.data as → as = []
  | .none, u, as, r => by
    have r' : Reads h u .none as := by simpa [NestedKey.data] using r
    cases r'
    rfl
  | .num i, u, as, r => by
    have r' : Reads h u (.int i) as := by simpa [NestedKey.data] using r
    cases r'
    rfl
  | .text x, u, as, r => by
    have r' : Reads h u (.str x) as := by simpa [NestedKey.data] using r
    cases r'
    rfl
  | .tup ks, u, as, r => by
    have r' : Reads h u (.tuple (NestedKey.datas ks)) as := by simpa [NestedKey.data] using r
    cases r' with
    | tuple h1 h2 h3 h4 => exact keys_no_as ks _ _ h4
theorem keys_no_as {h : Heap} : ∀ (ks : List NestedKey) (us : List Value) (as : List Addr), ReadsAll h us (NestedKey.datas ks) as → as = []
  | [], us, as, r => by
    have r' : ReadsAll h us [] as := by simpa [NestedKey.datas] using r
    cases r'
    rfl
  | k :: ks, us, as, r => by
    have r' : ReadsAll h us (k.data :: NestedKey.datas ks) as := by simpa [NestedKey.datas] using r
    cases r' with
    | cons h1 h2 => rw [key_no_as k _ _ h1, keys_no_as ks _ _ h2]; rfl
end
theorem each_refs {xs : List (NestedKey × Addr × Value)} : ∀ {vs : List Value}, PySem.W.EachIs (fun v (x : NestedKey × Addr × Value) => v = Value.ref x.2.1) vs xs → vs = xs.map fun x => Value.ref x.2.1 := by
  induction xs with
  | nil => intro vs h; cases h; rfl
  | cons x xs ih =>
    intro vs h
    cases h with
    | cons h1 h2 => rw [h1, ih h2]; rfl
theorem refs_each : ∀ (xs : List (NestedKey × Addr × Value)), PySem.W.EachIs (fun v (x : NestedKey × Addr × Value) => v = Value.ref x.2.1) (xs.map fun x => Value.ref x.2.1) xs
  | [] => .nil
  | _ :: xs => .cons rfl (refs_each xs)
theorem refs_vals : ∀ (bs : List Addr), Vals (bs.map V.ref) (bs.map Value.ref)
  | [] => .nil
  | _ :: bs => .cons rfl (refs_vals bs)
open PySem.W in
theorem cr_sortNk (hc : X.calm = true) (hu : X.A.units + 60 < cLine) : CallR X (.builtin "sorted") (rSortNk X.K X.w) := by
  intro pins s σ H vs us Q I r h
  obtain ⟨d, es, ep, F, m, rfl, sF, hH, hd, hk, fit, hml, hal, hso, hdp, q⟩ := h
  have := Vals.ref1 r
  subst this
  have hh := I.ok.hd hc
  obtain ⟨xs, g1, g2, g3, g4⟩ := nk_list hk fit.1
  have hraw : s.heap.DictRaw d es ep := (I.hok d _ hH).1
  have hxl : xs.length = m.length := by have := congrArg List.length g2; simpa using this
  have hlen : es.size = m.length := by
    have := congrArg List.length g1
    rw [← Array.length_toList, this, List.length_map, hxl]
  have hdata : xs.map (fun x => x.1.data) = m.map fun p => p.1.data := by
    have := congrArg (List.map NestedKey.data) g2
    simpa [List.map_map, Function.comp_def] using this
  refine Calls.call_function_entry kind_sorted plain_sorted entry_sorted (args_sorted1 _) ?_
  unfold Builtin.«sorted»
  refine wpAny_bind (m := checkCount "sorted" 1 1 _) (wpAny_pure ?_)
  refine wpAny_bind (kdu_collect (A := X.A.in1) (KdlSrc.rawDict hd) hh hraw (by rw [hlen, sizeLine_eq]; omega) fun h' tk acc hk' hacc => ?_)
  have hvs : acc.toList = xs.map fun x => Value.ref x.2.1 := by
    apply List.ext_getElem?
    intro j
    cases ej : acc.toList[j]? with
    | none =>
      have : acc.toList.length ≤ j := List.getElem?_eq_none_iff.mp ej
      rw [List.getElem?_eq_none]
      rw [List.length_map, hxl, ← hlen, ← hacc.1, ← Array.length_toList]
      exact this
    | some v =>
      obtain ⟨hi, hv⟩ := hacc.2 j v (by rw [← Array.getElem?_toList]; exact ej)
      have e1 : es.toList[j]? = some es[j] := by rw [Array.getElem?_toList]; simp [hi]
      rw [g1, List.getElem?_map] at e1
      rw [List.getElem?_map]
      cases ex : xs[j]? with
      | none => rw [ex] at e1; cases e1
      | some x =>
        rw [ex] at e1
        have e2 := Option.some.inj e1
        rw [hv, ← e2]
        rfl
  have I1 : Inv X pins σ H { s with heap := h', toks := tk } := I.kept (t' := tk) hk'
  refine wpAny_bind (wpAny_newList ?_ (by rw [Array.length_toList, hacc.1, hlen, sizeLine_eq]; omega))
  have hD : (h'.push { cls := .type "list", data := .seq acc.toList.toArray }).get? h'.objs.size = some (seqObj "list" (xs.map fun x => Value.ref x.2.1).toArray 0) := by
    rw [hvs]
    exact Heap.get?_push_size _ rfl
  have hf : H h'.objs.size = none := I1.hok.fresh (Nat.le_refl _)
  have I2 : Inv X pins σ H { s with heap := h'.push { cls := .type "list", data := .seq acc.toList.toArray }, toks := tk } := I1.kept (t' := tk) fun b o e => Heap.get?_push_of_some _ e
  have er : EachIs (fun v (x : NestedKey × Addr × Value) => ∃ as, Reads (h'.push { cls := .type "list", data := .seq acc.toList.toArray }) v x.1.data as ∧ h'.objs.size ∉ as) (xs.map fun x => Value.ref x.2.1) xs := by
    have key : ∀ ys : List (NestedKey × Addr × Value), (∀ x ∈ ys, Rp X.K F (.ref x.2.1) x.1.data ∧ x.1.depth ≤ 8) → EachIs (fun v (x : NestedKey × Addr × Value) => ∃ as, Reads (h'.push { cls := .type "list", data := .seq acc.toList.toArray }) v x.1.data as ∧ h'.objs.size ∉ as) (ys.map fun x => Value.ref x.2.1) ys := fun ys => by
      induction ys with
      | nil => intro _; exact .nil
      | cons y ys ih =>
        intro hy
        refine .cons ?_ (ih fun x hx => hy x (List.mem_cons_of_mem _ hx))
        obtain ⟨as, rd⟩ := Dp.reads I1 y.1.data (.ref y.2.1) (.ref y.2.1) (Rp.dp sF _ _ (hy y (List.mem_cons_self ..)).1) rfl
        refine ⟨as, PyProof.Rows.Reads.keeps (fun b o e => Heap.get?_push_of_some _ e) rd, ?_⟩
        rw [key_no_as y.1 _ _ rd]
        exact List.not_mem_nil
    exact key xs g3
  refine wpAny_bind (wpAny_holding (wpAny_mono (list_sort_data (A := X.A.in1) (s := { s with heap := h'.push { cls := .type "list", data := .seq acc.toList.toArray }, toks := tk }) (R := fun v (x : NestedKey × Addr × Value) => v = Value.ref x.2.1) (enc := fun x : NestedKey × Addr × Value => x.1.data) (n := 0)
    (Q := fun _ s' => EP X pins σ Q (.ref h'.objs.size) s') hD (refs_each xs) er (by rw [hdata]; exact hal) (by rw [hdata]; exact hso) (by rw [hxl, sizeLine_eq]; omega) (fun x hx => ?_) fun out ho eo => ?_) (fun _ s' x => wpAny_pure ⟨_, rfl, x⟩) fun _ _ e => e))
  · have hmem : x.1.data ∈ m.map fun p => p.1.data := by rw [← hdata]; exact List.mem_map_of_mem (f := fun x : NestedKey × Addr × Value => x.1.data) hx
    obtain ⟨p, hp1, hp2⟩ := List.mem_map.mp hmem
    have := hdp p hp1
    rw [hp2] at this
    show X.A.units + 1 + 1 + x.1.data.depth < cLine
    omega
  · have hout := each_refs eo
    obtain ⟨c, hcD⟩ := sortedHeap_at (vs := xs.map fun x => Value.ref x.2.1) (out := out.toArray) hD
    have hmap : (xs.mergeSort (dataLe false fun x => x.1.data)).map (fun x => x.1.data) = (m.map fun p => p.1.data).mergeSort (dataLe false id) := by
      rw [List.map_mergeSort (r := dataLe false fun x : NestedKey × Addr × Value => x.1.data) (s := dataLe false id) (f := fun x : NestedKey × Addr × Value => x.1.data) (fun a _ b _ => rfl), hdata]
    have rp : ∀ ys : List (NestedKey × Addr × Value), (∀ x ∈ ys, Rp X.K F (.ref x.2.1) x.1.data) → RpAll X.K F ((ys.map fun x => x.2.1).map V.ref) (ys.map fun x => x.1.data) := fun ys => by
      induction ys with
      | nil => intro _; exact .nil
      | cons y ys ih => intro hy; exact .cons (hy y (List.mem_cons_self ..)) (ih fun x hx => hy x (List.mem_cons_of_mem _ hx))
    have hq := q h'.objs.size ((xs.mergeSort (dataLe false fun x => x.1.data)).map fun x => x.2.1) hf (by rw [← hmap]; exact rp _ fun x hx => (g3 x (List.mem_mergeSort.mp hx)).1)
    refine ⟨.ref h'.objs.size, _, I1.laid (a := h'.objs.size) (o := .lst (((xs.mergeSort (dataLe false fun x => x.1.data)).map fun x => x.2.1).map V.ref)) (t' := tk) (fun b o e => ?_) (Nat.le_refl _) ⟨?_, ((xs.mergeSort (dataLe false fun x => x.1.data)).map fun x => x.2.1).map Value.ref, c, refs_vals _, ?_⟩, rfl, hq⟩
    · rw [sortedHeap_old (Nat.ne_of_lt (Heap.lt_size e)) (by rw [size_push']; exact Nat.lt_succ_of_lt (Heap.lt_size e))]
      exact Heap.get?_push_of_some _ e
    · rw [List.length_map, List.length_map, List.length_mergeSort, hxl, sizeLine_eq]
      omega
    · rw [hcD, hout, List.map_map]
      rfl
end
end Pd

set_option maxHeartbeats 2000000
/-! Pd24: dicts by nested keys, as data. -/
namespace Pd
open PySem PySem.Spec PyProof.Rows L2
section
variable {C : Cx → Prop} {P : Program} {w : World} {K : PySem.W.Frag} {mg : Str → Option Value} {base : Heap} {N : List Str} {sc : Scope} {k : Nat} {top : Bool}
def nkAt (i : Nat) (ρ : Sl) : Option (List (NestedKey × Int × PyData)) := match ρ[i]? with
  | some (some (.nk m)) => some m
  | _ => none
theorem nkAt_ok {i : Nat} {ρ : Sl} {m : List (NestedKey × Int × PyData)} (h : nkAt i ρ = some m) : ρ[i]? = some (some (.nk m)) := by
  unfold nkAt at h
  split at h
  · rename_i e; cases h; exact e
  · cases h
open Classical in
noncomputable def lookNk (m : List (NestedKey × Int × PyData)) (d : PyData) : Option PyData := (m.find? fun p => decide ((∃ ks, p.1 = .tup ks) ∧ p.1.data = d)).map (·.2.2)
open Classical in
noncomputable def rNkGet (w : World) (i : Nat) (a : E1) : E1 := fun ρ => (nkAt i ρ).bind fun m => (a ρ).bind fun d => if NkFit w m then lookNk m d else none
open Classical in
theorem pd_nkGet (Z : Fam C P w K mg base N sc k top) (i : Nat) {x : Str} {px pos : Pos} {e : Expr} {a : E1} (h : okV N sc i x = true) (ha : PEd C K e a) (hs : PlainIx e := by exact fun _ _ => rfl) : PEd C K (.Subscript (.Name x px) e pos) (rNkGet w i a) := by
  obtain ⟨ta, ha, sa⟩ := ha.ex
  refine ⟨tOp (rIxNk K w) (tVar i) ta, fun X c => ?_, fun F H σ ρ d R e0 Q q => ?_⟩
  · have := ix_nk (X := X) (by have := Z.units c; omega)
    rw [Z.K_ X c, Z.wo X c] at this
    exact pe_ix this (pe_ow (pos := px) Z h c) (ha X c) hs
  · unfold rNkGet at e0
    cases e1 : nkAt i ρ with
    | none => rw [e1] at e0; cases e0
    | some m =>
      rw [e1] at e0
      cases e2 : a ρ with
      | none =>
        have e' : ((a ρ).bind fun d => if NkFit w m then lookNk m d else none) = some d := e0
        rw [e2] at e'
        cases e'
      | some dk =>
        have e' : ((a ρ).bind fun d => if NkFit w m then lookNk m d else none) = some d := e0
        rw [e2] at e'
        have e3 : (if NkFit w m then lookNk m dk else none) = some d := e'
        split at e3
        · rename_i fit
          obtain ⟨u, hu, a', es, ep, rfl, hF, hsm, hk⟩ := R.cell i _ (nkAt_ok e1)
          refine ⟨.ref a', hu, sa F H σ ρ _ R e2 _ fun v F1 H1 s1 g1 f1 r1 => ?_⟩
          unfold lookNk at e3
          cases ef : m.find? (fun p => decide ((∃ ks, p.1 = NestedKey.tup ks) ∧ p.1.data = dk)) with
          | none => rw [ef] at e3; cases e3
          | some p =>
            rw [ef] at e3
            cases e3
            have hp := List.mem_of_find?_eq_some ef
            obtain ⟨⟨ks, hks⟩, hd⟩ : (∃ ks, p.1 = NestedKey.tup ks) ∧ p.1.data = dk := by
              have z := List.find?_some ef
              exact of_decide_eq_true z
            subst hd
            obtain ⟨kk, hh, dv⟩ := p
            have hks' : kk = .tup ks := hks
            subst hks'
            have r1' : Rp K F1 v (.tuple (NestedKey.datas ks)) := by simpa [NestedKey.data] using r1
            obtain ⟨b, us, rfl, h1, h2⟩ := rp_tup r1'
            exact ⟨a', es, ep, F1, m, b, .tup ks, hh, dv, rfl, rfl, f1, f1 _ _ (g1.1 _ _ hF), hsm, NkAll.mono g1.1 hk, fit, r1, (fit.1 _ hp).1, hp, fun v' hv' => q v' F1 H1 s1 g1 f1 hv'⟩
        · cases e3
open Classical in
noncomputable def rNkSort (w : World) (i : Nat) : E1 := fun ρ => (nkAt i ρ).bind fun m => if NkFit w m ∧ m.length ≤ 1000 ∧ PySem.W.AllAlike (m.map fun p => p.1.data) ∧ PySem.W.Sortable (m.map fun p => p.1.data) ∧ (∀ p ∈ m, p.1.data.depth ≤ 20) then some (.list ((m.map fun p => p.1.data).mergeSort (PySem.W.dataLe false id))) else none
open Classical in
theorem pd_nkSort (Z : Fam C P w K mg base N sc k top) (i : Nat) {x : Str} {px p pos : Pos} (h : okV N sc i x = true) (hm : mg "sorted" = none) (hg : okG sc "sorted" = true) : PEd C K (.Call (.Name "sorted" p) [.Name x px] [] pos) (rNkSort w i) := by
  unfold okG at hg
  simp only [Bool.and_eq_true] at hg
  refine ⟨tCB (rSortNk K w) (tCons (tVar i) tNil), fun X c => ?_, fun F H σ ρ d R e0 Q q => ?_⟩
  · have := cr_sortNk (X := X) (Z.calm X c) (by have := Z.units c; omega)
    rw [Z.K_ X c, Z.wo X c] at this
    exact pe_callB this (Z.gl hg.1 c) (by rw [Z.mg_ X c]; exact hm) (by decide +kernel) (pa_cons (pe_ow (pos := px) Z h c) pa_nil rfl) (plainN_n hg.2) (plainN_d hg.2) rfl rfl
  · unfold rNkSort at e0
    cases e1 : nkAt i ρ with
    | none => rw [e1] at e0; cases e0
    | some m =>
      rw [e1] at e0
      have e3 : (if NkFit w m ∧ m.length ≤ 1000 ∧ PySem.W.AllAlike (m.map fun p => p.1.data) ∧ PySem.W.Sortable (m.map fun p => p.1.data) ∧ (∀ p ∈ m, p.1.data.depth ≤ 20) then some (PyData.list ((m.map fun p => p.1.data).mergeSort (PySem.W.dataLe false id))) else none) = some d := e0
      split at e3
      · rename_i hh
        cases e3
        obtain ⟨u, hu, a', es, ep, rfl, hF, hsm, hk⟩ := R.cell i _ (nkAt_ok e1)
        exact ⟨.ref a', hu, a', es, ep, F, m, rfl, R.ex, R.ex _ _ hF, hsm, hk, hh.1, hh.2.1, hh.2.2.1, hh.2.2.2.1, hh.2.2.2.2, fun l bs hl r => rv_lst R.ex r q hl⟩
      · cases e3
end
end Pd

set_option maxHeartbeats 2000000
/-! Pd25: a dict by nested keys: d[k] = v. -/
namespace Pd
open PySem PySem.Spec PyProof.Rows L2
section
variable {K : PySem.W.Frag} {F : Hp}
abbrev NkP (K : PySem.W.Frag) (F : Hp) (x : NestedKey × Addr × Value) (p : NestedKey × Int × PyData) : Prop := x.1 = p.1 ∧ ∃ v, RelV v x.2.2 ∧ Rp K F v p.2.2
theorem nkAll_of {w : World} : ∀ {xs : List (NestedKey × Addr × Value)} {m : List (NestedKey × Int × PyData)}, (∀ x ∈ xs, Rp K F (.ref x.2.1) x.1.data) → Paired (NkP K F) xs m → (∀ p ∈ m, p.2.1 = p.1.hash w) →
    NkAll K F (xs.map (fun x => (⟨x.1.hash w, .ref x.2.1, x.2.2⟩ : DictEntry))) m
  | [], [], _, _, _ => trivial
  | x :: xs, (k, hh, d) :: m, h1, .cons ⟨e, v, r1, r2⟩ t, h2 => by
    have e' : x.1 = k := e
    have hh' : hh = k.hash w := h2 (k, hh, d) (List.mem_cons_self ..)
    refine ⟨⟨x.2.1, rfl, by rw [← e']; exact h1 x (List.mem_cons_self ..)⟩, ?_, ⟨v, r1, r2⟩, nkAll_of (fun y hy => h1 y (List.mem_cons_of_mem _ hy)) t fun p hp => h2 p (List.mem_cons_of_mem _ hp)⟩
    show x.1.hash w = hh
    rw [hh', e']
open Classical in
/-- d[k] = v -/
noncomputable def storeNk (m : List (NestedKey × Int × PyData)) (k : NestedKey) (hh : Int) (dv : PyData) : List (NestedKey × Int × PyData) :=
  if k ∈ m.map (·.1) then m.map (fun p => if p.1 = k then (p.1, p.2.1, dv) else p) else m ++ [(k, hh, dv)]
theorem atKey_some {xs : List (NestedKey × Addr × Value)} {k : NestedKey} : (atKey xs k).isSome = true ↔ k ∈ xs.map (·.1) := by
  unfold atKey
  rw [Option.isSome_map, List.find?_isSome]
  simp
theorem paired_map {α β α' β' : Type} {R : α → β → Prop} {R' : α' → β' → Prop} {f : α → α'} {g : β → β'} (h : ∀ a b, R a b → R' (f a) (g b)) : ∀ {xs : List α} {ys : List β}, Paired R xs ys → Paired R' (xs.map f) (ys.map g)
  | _, _, .nil => .nil
  | _, _, .cons r t => .cons (h _ _ r) (paired_map h t)
theorem paired_app {α β : Type} {R : α → β → Prop} : ∀ {xs xs' : List α} {ys ys' : List β}, Paired R xs ys → Paired R xs' ys' → Paired R (xs ++ xs') (ys ++ ys')
  | _, _, _, _, .nil, s => s
  | _, _, _, _, .cons r t, s => .cons r (paired_app t s)
theorem store_paired {xs : List (NestedKey × Addr × Value)} {m : List (NestedKey × Int × PyData)} {k : NestedKey} {b : Addr} {u : Value} {v : V} {hh : Int} {dv : PyData} (hk : xs.map (·.1) = m.map (·.1)) (p : Paired (NkP K F) xs m) (r1 : RelV v u) (r2 : Rp K F v dv) :
    Paired (NkP K F) (storedH xs k b u) (storeNk m k hh dv) := by
  unfold storedH storeNk
  by_cases h : k ∈ m.map (·.1)
  · rw [if_pos h, if_pos (atKey_some.mpr (by rw [hk]; exact h))]
    refine paired_map (fun x q hq => ?_) p
    obtain ⟨e, v', g1, g2⟩ := hq
    unfold putAt
    by_cases ek : x.1 = k
    · rw [if_pos ek, if_pos (by rw [← e]; exact ek)]
      exact ⟨e, v, r1, r2⟩
    · rw [if_neg ek, if_neg (by rw [← e]; exact ek)]
      exact ⟨e, v', g1, g2⟩
  · rw [if_neg h, if_neg (by rw [Bool.not_eq_true, Bool.eq_false_iff]; intro z; exact h (by rw [← hk]; exact atKey_some.mp z))]
    exact paired_app p (.cons ⟨rfl, v, r1, r2⟩ .nil)
theorem stored_keys {xs : List (NestedKey × Addr × Value)} {k : NestedKey} {b : Addr} {u : Value} (h1 : ∀ x ∈ xs, Rp K F (.ref x.2.1) x.1.data) (hb : Rp K F (.ref b) k.data) : ∀ x ∈ storedH xs k b u, Rp K F (.ref x.2.1) x.1.data := fun x hx => by
  unfold storedH at hx
  split at hx
  · obtain ⟨y, hy, rfl⟩ := List.mem_map.mp hx
    unfold putAt
    split
    · exact h1 y hy
    · exact h1 y hy
  · rcases List.mem_append.mp hx with hx | hx
    · exact h1 x hx
    · rw [List.mem_singleton.mp hx]; exact hb
end
section
variable {X : Cx}
/-- d[k] = v, by values -/
def sSetNk (K : PySem.W.Frag) (w : World) : TSet := fun o i v H Q => ∃ d es ep F m b k dv, o = .ref d ∧ i = .ref b ∧ Same F H ∧ H d = some (rawD d es ep) ∧ NkAll K F es.toList m ∧ NkFit w m ∧ m.length < 1000 ∧ Rp K F (.ref b) k.data ∧ k.depth ≤ 8 ∧ Rp K F v dv ∧
  ∀ es' ep', NkAll K F es'.toList (storeNk m k (k.hash w) dv) → Q (upd H d (rawD d es' ep'))
theorem set_nk (hu : X.A.units + 20 < cLine) : PSet X (sSetNk X.K X.w) := by
  intro pins s σ H o i v ov iv u Q I ro ri rv h
  obtain ⟨d, es, ep, F, m, b, k, dv, rfl, rfl, sF, hH, hk, fit, hml, rb, hdep, rdv, q⟩ := h
  obtain rfl : ov = Value.ref d := ro
  obtain rfl : iv = Value.ref b := ri
  obtain ⟨xs, hdict, hkeys, hxs, hp⟩ := nk_dict I sF hH hk fit
  have hxl : xs.length = m.length := by have := congrArg List.length hkeys; simpa using this
  refine wpAny_setItem_heap (hsz := by rw [hxl, sizeLine_eq]; omega) (k := k) (by show X.A.units + 1 + 8 < cLine; omega) (key_is I sF hdep rb) hdict fun h' hd' hs => ?_
  obtain ⟨o', es', ep', ho', hx', hdt, hes, hks, hnd⟩ := hd'
  have hall : NkAll X.K F es'.toList (storeNk m k (k.hash X.w) dv) := by
    rw [hes]
    refine nkAll_of (stored_keys (fun x hx => (hxs x hx).1) rb) (store_paired hkeys hp rv rdv) fun p hp' => ?_
    unfold storeNk at hp'
    split at hp'
    · obtain ⟨y, hy, rfl⟩ := List.mem_map.mp hp'
      have hy2 := (fit.1 y hy).2
      split
      · exact hy2
      · exact hy2
    · rcases List.mem_append.mp hp' with hp' | hp'
      · exact (fit.1 p hp').2
      · rw [List.mem_singleton.mp hp']
  refine ⟨upd H d (rawD d es' ep'), ?_, q es' ep' hall⟩
  refine I.write (x := d) (e := d) (by rw [hH]; trivial) (.inl rfl) (fun c w hc e => (hs.2 c hc).trans e) ⟨o', ho'⟩ ⟨⟨o', ho', hx', hdt⟩, ⟨o', ho'⟩, fun h1 h2 ⟨o, ho, r⟩ kk => ⟨o, kk o ho, r⟩⟩
/-- {} -/
def tNewNk : TE := fun _ H Q => ∀ p, H p = none → (p == sysModules) = false → Q (.ref p) (upd H p (rawD p #[] 0))
theorem pe_newNk {pos : Pos} : PE X (.Dict [] [] pos) tNewNk := ⟨fun pins s σ H Q I h =>
  wpAny_Dict_empty ⟨.ref s.heap.objs.size, _, I.laid (a := s.heap.objs.size) (o := rawD s.heap.objs.size #[] 0) (t' := s.toks) (fun _ _ q => Heap.get?_push_of_some _ q) (Nat.le_refl _)
    ⟨⟨_, Heap.get?_push_size _ rfl, ⟨rfl, rfl, rfl⟩, rfl⟩, ⟨_, Heap.get?_push_size _ rfl⟩, fun h1 h2 ⟨o, ho, r⟩ kk => ⟨o, kk o ho, r⟩⟩, rfl, h _ (I.hok.fresh (Nat.le_refl _)) (beq_eq_false_iff_ne.mpr (Ne.symm (Nat.ne_of_lt I.big)))⟩⟩
end
end Pd

set_option maxHeartbeats 2000000
/-! Pd26: defs of data called with arguments that draw. -/
namespace Pd
open PySem PySem.Spec PyProof.Rows L2
def nCal {S : Type} (n : Nat) (m : List PyData → Option PyData) (a : AN S) : EN S := fun ρ s W => a ρ s fun ds s1 => ds.length = n ∧ ∃ d, m ds = some d ∧ W d s1
section
variable {P : Program} {w : World} {K : PySem.W.Frag} {mg : Str → Option Value} {base : Heap} {N : List Str} {sc : Scope} {k : Nat} {C : Cx → Prop} {top : Bool} {G : Reg} {i : Nat}
theorem pn_cal {j : Nat} {x : Str} {n : Nat} {m : List PyData → Option PyData} {e : Expr} {es : List Expr} {t : AN G.S} {p pos : Pos} (Z : Fam C P w K mg base N sc k top) (c : Cal P w K mg base j x n m) (hj : j ≤ k) (ha : PAn C K G i (e :: es) t) (h : okG sc x = true)
    (he : ∀ env, starEach (e :: es) env = (false, eval e env) :: starEach es env := by intro _; rfl) (hpl : ∀ env, (backTo pos (starEach es env)).any (·.1) = false := by intro _; rfl) : PEn C K G i (.Call (.Name x p) (e :: es) [] pos) (nCal n m t) := by
  unfold okG at h
  simp only [Bool.and_eq_true] at h
  obtain ⟨f, fd, ps, hm, kp, hn, Gf, b, _⟩ := c.ex
  obtain ⟨ta, ha, sa⟩ := ha.ex
  refine ⟨tCall (spD K n m) [] E0 ta, fun X c => ?_, fun δ F H σ ρ s W R st hr Q q => sa δ F H σ ρ s _ R st hr _ fun vs ds s1 F1 H1 hw a1 r1 => ?_⟩
  · have e1 := Z.prog X c
    have e2 := Z.wo X c
    have e3 := Z.K_ X c
    have e4 := Z.mg_ X c
    have e5 := Z.base_ X c
    exact pe_call (F := by rw [e1, e2, e3, e4, e5]; exact Gf) ((Z.room X c).mono hj) (Z.gl h.1 c) (by rw [e4]; exact hm) (by rw [e3]; exact kp) (by rw [e3]; exact b) .nil pass0 (ha X c) (plainN_d h.2) (he X.env) (hpl X.env)
  · obtain ⟨hl, d, e, hw⟩ := hw
    exact ⟨F1, ds, d, hl, a1.ex, by rw [List.append_nil]; exact r1, e, fun v F2 H2 s2 g2 f2 r2 => q v d s1 F2 H2 hw (a1.trans (Aft.pure a1.st s2 g2 f2)) r2⟩
theorem pn_calG {j : Nat} {x : Str} {n : Nat} {m : List PyData → Option PyData} {e : Expr} {es : List Expr} {t : AN G.S} {p pos : Pos} (Z : Fam C P w K mg base N sc k top) (hgd : ∀ X, C X → X.A.guards = some []) (c : CalG P w K mg base j x n m) (hj : j ≤ k) (ha : PAn C K G i (e :: es) t) (h : okG sc x = true)
    (he : ∀ env, starEach (e :: es) env = (false, eval e env) :: starEach es env := by intro _; rfl) (hpl : ∀ env, (backTo pos (starEach es env)).any (·.1) = false := by intro _; rfl) : PEn C K G i (.Call (.Name x p) (e :: es) [] pos) (nCal n m t) := by
  unfold okG at h
  simp only [Bool.and_eq_true] at h
  obtain ⟨f, fd, ps, hm, kp, hn, G, b⟩ := c.ex
  obtain ⟨ta, ha, sa⟩ := ha.ex
  refine ⟨tCall (spD K n m) [] E0 ta, fun X c => ?_, fun δ F H σ ρ s W R st hr Q q => sa δ F H σ ρ s _ R st hr _ fun vs ds s1 F1 H1 hw a1 r1 => ?_⟩
  · have e1 := Z.prog X c
    have e2 := Z.wo X c
    have e3 := Z.K_ X c
    have e4 := Z.mg_ X c
    have e5 := Z.base_ X c
    refine ⟨fun pins s σ H Q I h0 => ?_⟩
    refine wpAny_Call_Name_kw (ld_glob I (Z.gl h.1 c) (by rw [e4]; exact hm) ?_ (plainN_d h.2))
    refine PySem.W.callWith_K (h₀ := X.base) I.ok.mod.kin (by rw [e3]; exact kp) (thn ((ha X c).run pos pins s σ H _ I h0) fun us s1 ⟨vs, H1, I1, r, q⟩ => ⟨I1.kIn, ?_⟩) (he X.env) (hpl X.env)
    have q' : spD K n m (vs ++ []) H1 Q E0 := q
    rw [List.append_nil] at q'
    have hl : us.length = ps.length := by rw [← r.length]; exact G.len _ _ _ _ q'
    have G' : FnG X.prog X.w X.K X.mg X.base j f fd ps (spD K n m) := by rw [e1, e2, e3, e4, e5]; exact G
    have b' : Binds X.K fd ps [] := by rw [e3]; exact b
    have hbd := b' s1 us I1.kIn (by rw [List.append_nil]; exact hl)
    rw [List.append_nil] at hbd
    refine wpAny_call (codeAny_mono (G'.run X.A X.stack s1 H1 ⟨us, []⟩ us vs Q E0 ((Z.room X c).mono hj) (hgd X c) I1.env0 hbd r q') fun r' s' hq => ?_)
    cases r' with
    | error e => exact pass0 pins σ H1 s1 e s' I1 hq
    | ok fl =>
      cases fl with
      | ret u => exact I1.after hq
      | next => exact False.elim hq
      | brk => exact False.elim hq
      | cont => exact False.elim hq
  · obtain ⟨hl, d, e, hw⟩ := hw
    exact ⟨F1, ds, d, hl, a1.ex, by rw [List.append_nil]; exact r1, e, fun v F2 H2 s2 g2 f2 r2 => q v d s1 F2 H2 hw (a1.trans (Aft.pure a1.st s2 g2 f2)) r2⟩
end
end Pd

set_option maxHeartbeats 2000000
namespace K73
open PySem PySem.Spec PyProof.Rows L2 Pd
/-- a, b = e1, e2 is a swap of two locals -/
theorem swp2 {env : Env} {sc : Scope} {t v : Expr} {x y : Str} (he : env.scope = sc) (h : ∀ env : Env, env.scope = sc → swappedStores [t] v env = pure (some [x, y]) := by intro _ e; unfold swappedStores Env.blockKind Env.kindOf; rw [e]; rfl) : swappedStores [t] v env = pure (some [x, y]) := h env he
def tSIGNS : List (Str × PyData) := [("plus", .str " + "), ("minus", .str " - "), ("times", .str " * ")]
/-- what the head tells of the module -/
structure Rdr (K : PySem.W.Frag) (mg : Str → Option Value) (Cl : Addr) : Prop where
  gl : mg "LineReader" = some (.ref Cl)
  rc : RdC K Cl
  mker : ∃ f fd, Mk K Cl f ∧ FunD K "__init__" "LineReader.__init__" (defArgs s_LineReader_init) (defBody s_LineReader_init) (defScope s_LineReader_init) [] [] f fd
  m_starts : DM K Cl "starts" "LineReader.starts" s_LineReader_starts
  m_take : DM K Cl "take" "LineReader.take" s_LineReader_take
  m_take_one : DM K Cl "take_one" "LineReader.take_one" s_LineReader_take_one
  m_take_run : DM K Cl "take_run" "LineReader.take_run" s_LineReader_take_run
  m_take_end : DM K Cl "take_end" "LineReader.take_end" s_LineReader_take_end
  m_take_name : DM K Cl "take_name" "LineReader.take_name" s_LineReader_take_name
  m_take_integer : DM K Cl "take_integer" "LineReader.take_integer" s_LineReader_take_integer
  m_take_expression : DM K Cl "take_expression" "LineReader.take_expression" s_LineReader_take_expression
  m_take_pair : DM K Cl "take_pair" "LineReader.take_pair" s_LineReader_take_pair
  m_take_condition : DM K Cl "take_condition" "LineReader.take_condition" s_LineReader_take_condition
  m_take_given : DM K Cl "take_given" "LineReader.take_given" s_LineReader_take_given
structure Tp (K : PySem.W.Frag) (w : World) (mg : Str → Option Value) : Prop where
  f_is_integer : DF K mg "is_integer" s_is_integer []
  f_common_divisor : DF K mg "common_divisor" s_common_divisor []
  f_is_number : DF K mg "is_number" s_is_number []
  f_top_of : DF K mg "top_of" s_top_of []
  f_bottom_of : DF K mg "bottom_of" s_bottom_of []
  f_is_less : DF K mg "is_less" s_is_less []
  f_show_number : DF K mg "show_number" s_show_number []
  f_is_box : DF K mg "is_box" s_is_box []
  f_is_integer_from : DF K mg "is_integer_from" s_is_integer_from []
  f_is_event_name : DF K mg "is_event_name" s_is_event_name []
  f_show_name : DF K mg "show_name" s_show_name []
  f_is_digits : DF K mg "is_digits" s_is_digits []
  f_read_name : DF K mg "read_name" s_read_name []
  f_are_pairs : DF K mg "are_pairs" s_are_pairs []
  f_is_between : DF K mg "is_between" s_is_between []
  f_is_in_range : DF K mg "is_in_range" s_is_in_range []
  f_is_name : DF K mg "is_name" s_is_name []
  f_is_one_of : DF K mg "is_one_of" s_is_one_of []
  f_is_expression : DF K mg "is_expression" s_is_expression [.int 4]
  f_is_measure : DF K mg "is_measure" s_is_measure []
  f_show_expression : DF K mg "show_expression" s_show_expression []
  f_is_index : DF K mg "is_index" s_is_index []
  f_is_ends : DF K mg "is_ends" s_is_ends []
  f_is_emits : DF K mg "is_emits" s_is_emits []
  f_is_within : DF K mg "is_within" s_is_within []
  f_is_requirement : DF K mg "is_requirement" s_is_requirement []
  f_is_sight : DF K mg "is_sight" s_is_sight []
  f_must : DF K mg "must" s_must []
  f_whole_in : DF K mg "whole_in" s_whole_in []
  f_number_in : DF K mg "number_in" s_number_in []
  f_name_in : DF K mg "name_in" s_name_in []
  f_show_part : DF K mg "show_part" s_show_part []
  f_parts_of : DF K mg "parts_of" s_parts_of []
  f_show_requirement : DF K mg "show_requirement" s_show_requirement []
  f_part_in : DF K mg "part_in" s_part_in []
  f_expression_in : DF K mg "expression_in" s_expression_in []
  f_read_requirement : DF K mg "read_requirement" s_read_requirement []
  f_show_sight : DF K mg "show_sight" s_show_sight []
  f_read_sight : DF K mg "read_sight" s_read_sight []
  f_show_measure : DF K mg "show_measure" s_show_measure []
  f_read_measure : DF K mg "read_measure" s_read_measure []
  f_show_box : DF K mg "show_box" s_show_box []
  f_read_box : DF K mg "read_box" s_read_box []
  f__law_deck : DF K mg "_law_deck" s__law_deck []
  f__law_draw : DF K mg "_law_draw" s__law_draw []
  f__law_pick : DF K mg "_law_pick" s__law_pick []
  f__law_same : DF K mg "_law_same" s__law_same []
  f__law_program : DF K mg "_law_program" s__law_program []
  f__law_number : DF K mg "_law_number" s__law_number []
  f__law_shown : DF K mg "_law_shown" s__law_shown []
  f__law_expression : DF K mg "_law_expression" s__law_expression []
  f__law_written : DF K mg "_law_written" s__law_written []
  f__law_name : DF K mg "_law_name" s__law_name []
  f__law_event : DF K mg "_law_event" s__law_event []
  f__law_part : DF K mg "_law_part" s__law_part []
  f__law_requirement : DF K mg "_law_requirement" s__law_requirement []
  f__law_flat : DF K mg "_law_flat" s__law_flat []
  f__law_part_text : DF K mg "_law_part_text" s__law_part_text []
  f__law_requirement_text : DF K mg "_law_requirement_text" s__law_requirement_text []
  f__law_read_back : DF K mg "_law_read_back" s__law_read_back []
  f__law_sight : DF K mg "_law_sight" s__law_sight []
  f__law_sight_text : DF K mg "_law_sight_text" s__law_sight_text []
  f__law_less : DF K mg "_law_less" s__law_less []
  f__law_measure : DF K mg "_law_measure" s__law_measure []
  f__law_measure_text : DF K mg "_law_measure_text" s__law_measure_text []
  f__law_box : DF K mg "_law_box" s__law_box []
  f__law_box_text : DF K mg "_law_box_text" s__law_box_text []
  f__law_is_requirement_right : DF K mg "_law_is_requirement_right" s__law_is_requirement_right []
  f__law_is_box_right : DF K mg "_law_is_box_right" s__law_is_box_right []
  f_law : DF K mg "law" s_law []
  g_BOX_PARTS : GD K mg "BOX_PARTS" (.int 3)
  g_KINDS : GD K mg "KINDS" (.tuple [(.str "start"), (.str "step"), (.str "done"), (.str "timer"), (.str "finish")])
  g_DIGITS_eventnames : GD K mg "DIGITS_eventnames" (.str "0123456789")
  g_LETTERS : GD K mg "LETTERS" (.str "abcdefghijklmnopqrstuvwxyz")
  g_LONGEST_NAME : GD K mg "LONGEST_NAME" (.int 8)
  g_FARTHEST : GD K mg "FARTHEST" (.int 1000000)
  g_MOST_LEVELS : GD K mg "MOST_LEVELS" (.int 4)
  g_MOST_PARTS : GD K mg "MOST_PARTS" (.int 4)
  g_DIGITS_programtexts : GD K mg "DIGITS_programtexts" (.str "0123456789")
  g_MOST_DIGITS : GD K mg "MOST_DIGITS" (.int 7)
  g_MOST_PARENTHESES : GD K mg "MOST_PARENTHESES" (.int 60)
  g_LEVELS : GD K mg "LEVELS" (.int 2)
  g_ALONE : GD K mg "ALONE" (.tuple [(.str "unblocked"), (.str "faultless")])
  g_TIME : GD K mg "TIME" (.str "time")
  g_COMES : GD K mg "COMES" (.str "comes")
  g_LATER : GD K mg "LATER" (.str "later")
  g_EMITS : GD K mg "EMITS" (.str "emits")
  g_SPACE : GD K mg "SPACE" (.str " ")
  g_COMMA : GD K mg "COMMA" (.str ",")
  g_COLON : GD K mg "COLON" (.str ":")
  g_EQUALS : GD K mg "EQUALS" (.str "=")
  g_AND : GD K mg "AND" (.str "; ")
  g_TIMES : GD K mg "TIMES" (.str "*")
  g_MOST_FIGURES : GD K mg "MOST_FIGURES" (.int 40)
  n_abs : mg "abs" = none
  n_all : mg "all" = none
  n_bool : mg "bool" = none
  n_dict : mg "dict" = none
  n_int : mg "int" = none
  n_isinstance : mg "isinstance" = none
  n_len : mg "len" = none
  n_list : mg "list" = none
  n_max : mg "max" = none
  n_range : mg "range" = none
  n_repr : mg "repr" = none
  n_sorted : mg "sorted" = none
  n_str : mg "str" = none
  n_tuple : mg "tuple" = none
  n_zip : mg "zip" = none
  t_SIGNS : Tab K w mg "SIGNS" tSIGNS
  t_SIGNS2 : TabC w K mg "SIGNS" tSIGNS
  rdr : ∃ Cl, Rdr K mg Cl
section
variable {P : Program} {w : World} {K : PySem.W.Frag} {mg : Str → Option Value} {base : Heap}
abbrev N_is_integer : List Str := ["thing"]
theorem sc_is_integer : FnScope N_is_integer ["thing"] (defScope s_is_integer) := ⟨rfl, rfl, rfl, by decide +kernel, rfl, by decide +kernel, by decide +kernel⟩
def b_is_integer : B1 := sRet (rAnd (rE1 (fIsi "int") (rVar 0)) (rNot (rE1 (fIsi "bool") (rVar 0))))
def m_is_integer : List PyData → Option PyData := runB 1 b_is_integer
theorem c_is_integer (T : Tp K w mg) : Cal P w K mg base 1 "is_integer" 1 m_is_integer := cal_of (k := 0) (ps := ["thing"]) (nN := 1) (b := b_is_integer) T.f_is_integer sc_is_integer rfl rfl (fun _ _ _ _ _ _ us hl => match us, hl with | [_], _ => rfl) fun f Z =>
  pss1_one (ps1_ret (pd_and (pd_isi Z ty_int (pd_var Z 0 (by decide +kernel)) T.n_isinstance T.n_int (by decide +kernel) (by decide +kernel) (by decide +kernel)) (pd_one (pd_not (pd_isi Z ty_bool (pd_var Z 0 (by decide +kernel)) T.n_isinstance T.n_bool (by decide +kernel) (by decide +kernel) (by decide +kernel))))))
abbrev N_common_divisor : List Str := ["one", "other"]
theorem sc_common_divisor : FnScope N_common_divisor ["one", "other"] (defScope s_common_divisor) := ⟨rfl, rfl, rfl, by decide +kernel, rfl, by decide +kernel, by decide +kernel⟩
def b_common_divisor : B1 := sSeq (whD (tVal (rE2 fNe (rVar 1) (rC (.int 0)))) (sPar 0 1 (aCons (rVar 1) (aCons (rE2 fMod (rVar 0) (rVar 1)) (aNil)))) 300) (sRet (rA fAbs (aCons (rVar 0) (aNil))))
def m_common_divisor : List PyData → Option PyData := runB 2 b_common_divisor
theorem c_common_divisor (T : Tp K w mg) : Cal P w K mg base 1 "common_divisor" 2 m_common_divisor := cal_of (k := 0) (ps := ["one", "other"]) (nN := 2) (b := b_common_divisor) T.f_common_divisor sc_common_divisor rfl rfl (fun _ _ _ _ _ _ us hl => match us, hl with | [_, _], _ => rfl) fun f Z =>
  pss1_cons (ps1_while Z 300 (ptd_cmp (zNe Z) o2_ne (pd_var Z 1 (by decide +kernel)) (pd_int) (by rfl)) (pss1_one (ps1_par Z 0 1 rfl rfl (by decide) (by decide +kernel) (by decide +kernel) (pad_cons (pd_var Z 1 (by decide +kernel)) (pad_cons (pd_bin (fun _ _ => op_modN) o2_mod (pd_var Z 0 (by decide +kernel)) (pd_var Z 1 (by decide +kernel))) (pad_nil))) (fun env he => swp2 he)))) (pss1_one (ps1_ret (pd_cb Z (fun _ _ => call_abs) oc_abs T.n_abs (by decide +kernel) (pad_cons (pd_var Z 0 (by decide +kernel)) (pad_nil)) (by decide +kernel))))
abbrev N_is_number : List Str := ["thing"]
theorem sc_is_number : FnScope N_is_number ["thing"] (defScope s_is_number) := ⟨rfl, rfl, rfl, by decide +kernel, rfl, by decide +kernel, by decide +kernel⟩
def b_is_number : B1 := sSeq (sIf (tNotD (tVal (rE1 (fIsi "tuple") (rVar 0)))) (sRet (rCall 1 m_is_integer (aCons (rVar 0) (aNil)))) (sNext)) (sSeq (sIf (tOrD (tVal (rE2 fNe (rA fLen (aCons (rVar 0) (aNil))) (rC (.int 2)))) (tOrD (tNotD (tVal (rCall 1 m_is_integer (aCons (rE2 fIx (rVar 0) (rC (.int 0))) (aNil))))) (tNotD (tVal (rCall 1 m_is_integer (aCons (rE2 fIx (rVar 0) (rC (.int 1))) (aNil))))))) (sRet (rC (.bool false))) (sNext)) (sRet (rAnd (rE2 fGt (rE2 fIx (rVar 0) (rC (.int 1))) (rC (.int 1))) (rE2 fEq (rCall 2 m_common_divisor (aCons (rE2 fIx (rVar 0) (rC (.int 0))) (aCons (rE2 fIx (rVar 0) (rC (.int 1))) (aNil)))) (rC (.int 1))))))
def m_is_number : List PyData → Option PyData := runB 1 b_is_number
theorem c_is_number (T : Tp K w mg) : Cal P w K mg base 2 "is_number" 1 m_is_number := cal_of (k := 1) (ps := ["thing"]) (nN := 1) (b := b_is_number) T.f_is_number sc_is_number rfl rfl (fun _ _ _ _ _ _ us hl => match us, hl with | [_], _ => rfl) fun f Z =>
  pss1_cons (ps1_if (ptd_not (ptd_val (pd_isi Z ty_tuple (pd_var Z 0 (by decide +kernel)) T.n_isinstance T.n_tuple (by decide +kernel) (by decide +kernel) (by decide +kernel)))) (pss1_one (ps1_ret (pd_call Z (c_is_integer T) (by omega) (pad_cons (pd_var Z 0 (by decide +kernel)) (pad_nil)) (by decide +kernel)))) (pss1_nil)) (pss1_cons (ps1_if (PWd.pt (pwd_or (ptd_cmp (zNe Z) o2_ne (pd_cb Z (zLen Z) oc_len T.n_len (by decide +kernel) (pad_cons (pd_var Z 0 (by decide +kernel)) (pad_nil)) (by decide +kernel)) (pd_int) (by rfl)) (pwd_or (ptd_not (ptd_val (pd_call Z (c_is_integer T) (by omega) (pad_cons (pd_ix (zIx Z) o2_ix (pd_var Z 0 (by decide +kernel)) (pd_int)) (pad_nil)) (by decide +kernel)))) (pwd_or1 (ptd_not (ptd_val (pd_call Z (c_is_integer T) (by omega) (pad_cons (pd_ix (zIx Z) o2_ix (pd_var Z 0 (by decide +kernel)) (pd_int)) (pad_nil)) (by decide +kernel)))))))) (pss1_one (ps1_ret (pd_bl))) (pss1_nil)) (pss1_one (ps1_ret (pd_and (pd_cmp (fun _ _ => op_gt) o2_gt (pd_ix (zIx Z) o2_ix (pd_var Z 0 (by decide +kernel)) (pd_int)) (pd_int) (by rfl)) (pd_one (pd_cmp (zEq Z) o2_eq (pd_call Z (c_common_divisor T) (by omega) (pad_cons (pd_ix (zIx Z) o2_ix (pd_var Z 0 (by decide +kernel)) (pd_int)) (pad_cons (pd_ix (zIx Z) o2_ix (pd_var Z 0 (by decide +kernel)) (pd_int)) (pad_nil))) (by decide +kernel)) (pd_int) (by rfl)))))))
abbrev N_top_of : List Str := ["number"]
theorem sc_top_of : FnScope N_top_of ["number"] (defScope s_top_of) := ⟨rfl, rfl, rfl, by decide +kernel, rfl, by decide +kernel, by decide +kernel⟩
def b_top_of : B1 := sRet (rIf (tVal (rE1 (fIsi "tuple") (rVar 0))) (rE2 fIx (rVar 0) (rC (.int 0))) (rVar 0))
def m_top_of : List PyData → Option PyData := runB 1 b_top_of
theorem c_top_of (T : Tp K w mg) : Cal P w K mg base 1 "top_of" 1 m_top_of := cal_of (k := 0) (ps := ["number"]) (nN := 1) (b := b_top_of) T.f_top_of sc_top_of rfl rfl (fun _ _ _ _ _ _ us hl => match us, hl with | [_], _ => rfl) fun f Z =>
  pss1_one (ps1_ret (pd_if (ptd_val (pd_isi Z ty_tuple (pd_var Z 0 (by decide +kernel)) T.n_isinstance T.n_tuple (by decide +kernel) (by decide +kernel) (by decide +kernel))) (pd_ix (zIx Z) o2_ix (pd_var Z 0 (by decide +kernel)) (pd_int)) (pd_var Z 0 (by decide +kernel))))
abbrev N_bottom_of : List Str := ["number"]
theorem sc_bottom_of : FnScope N_bottom_of ["number"] (defScope s_bottom_of) := ⟨rfl, rfl, rfl, by decide +kernel, rfl, by decide +kernel, by decide +kernel⟩
def b_bottom_of : B1 := sRet (rIf (tVal (rE1 (fIsi "tuple") (rVar 0))) (rE2 fIx (rVar 0) (rC (.int 1))) (rC (.int 1)))
def m_bottom_of : List PyData → Option PyData := runB 1 b_bottom_of
theorem c_bottom_of (T : Tp K w mg) : Cal P w K mg base 1 "bottom_of" 1 m_bottom_of := cal_of (k := 0) (ps := ["number"]) (nN := 1) (b := b_bottom_of) T.f_bottom_of sc_bottom_of rfl rfl (fun _ _ _ _ _ _ us hl => match us, hl with | [_], _ => rfl) fun f Z =>
  pss1_one (ps1_ret (pd_if (ptd_val (pd_isi Z ty_tuple (pd_var Z 0 (by decide +kernel)) T.n_isinstance T.n_tuple (by decide +kernel) (by decide +kernel) (by decide +kernel))) (pd_ix (zIx Z) o2_ix (pd_var Z 0 (by decide +kernel)) (pd_int)) (pd_int)))
abbrev N_is_less : List Str := ["one", "other"]
theorem sc_is_less : FnScope N_is_less ["one", "other"] (defScope s_is_less) := ⟨rfl, rfl, rfl, by decide +kernel, rfl, by decide +kernel, by decide +kernel⟩
def b_is_less : B1 := sRet (rE2 fLt (rE2 fMul (rCall 1 m_top_of (aCons (rVar 0) (aNil))) (rCall 1 m_bottom_of (aCons (rVar 1) (aNil)))) (rE2 fMul (rCall 1 m_top_of (aCons (rVar 1) (aNil))) (rCall 1 m_bottom_of (aCons (rVar 0) (aNil)))))
def m_is_less : List PyData → Option PyData := runB 2 b_is_less
theorem c_is_less (T : Tp K w mg) : Cal P w K mg base 2 "is_less" 2 m_is_less := cal_of (k := 1) (ps := ["one", "other"]) (nN := 2) (b := b_is_less) T.f_is_less sc_is_less rfl rfl (fun _ _ _ _ _ _ us hl => match us, hl with | [_, _], _ => rfl) fun f Z =>
  pss1_one (ps1_ret (pd_cmp (fun _ _ => op_lt) o2_lt (pd_bin (fun _ _ => op_mul) o2_mul (pd_call Z (c_top_of T) (by omega) (pad_cons (pd_var Z 0 (by decide +kernel)) (pad_nil)) (by decide +kernel)) (pd_call Z (c_bottom_of T) (by omega) (pad_cons (pd_var Z 1 (by decide +kernel)) (pad_nil)) (by decide +kernel))) (pd_bin (fun _ _ => op_mul) o2_mul (pd_call Z (c_top_of T) (by omega) (pad_cons (pd_var Z 1 (by decide +kernel)) (pad_nil)) (by decide +kernel)) (pd_call Z (c_bottom_of T) (by omega) (pad_cons (pd_var Z 0 (by decide +kernel)) (pad_nil)) (by decide +kernel))) (by rfl)))
abbrev N_show_number : List Str := ["number"]
theorem sc_show_number : FnScope N_show_number ["number"] (defScope s_show_number) := ⟨rfl, rfl, rfl, by decide +kernel, rfl, by decide +kernel, by decide +kernel⟩
def b_show_number : B1 := sSeq (sIf (tVal (rE1 (fIsi "tuple") (rVar 0))) (sRet (rJs [rFmt (rE2 fIx (rVar 0) (rC (.int 0))), fun _ => some "/", rFmt (rE2 fIx (rVar 0) (rC (.int 1)))])) (sNext)) (sRet (rA fStr (aCons (rVar 0) (aNil))))
def m_show_number : List PyData → Option PyData := runB 1 b_show_number
theorem c_show_number (T : Tp K w mg) : Cal P w K mg base 1 "show_number" 1 m_show_number := cal_of (k := 0) (ps := ["number"]) (nN := 1) (b := b_show_number) T.f_show_number sc_show_number rfl rfl (fun _ _ _ _ _ _ us hl => match us, hl with | [_], _ => rfl) fun f Z =>
  pss1_cons (ps1_if (ptd_val (pd_isi Z ty_tuple (pd_var Z 0 (by decide +kernel)) T.n_isinstance T.n_tuple (by decide +kernel) (by decide +kernel) (by decide +kernel))) (pss1_one (ps1_ret (pd_joined (.cons (pfd_fmt (pd_ix (zIx Z) o2_ix (pd_var Z 0 (by decide +kernel)) (pd_int))) (.cons (pfd_str) (.cons (pfd_fmt (pd_ix (zIx Z) o2_ix (pd_var Z 0 (by decide +kernel)) (pd_int))) (.nil))))))) (pss1_nil)) (pss1_one (ps1_ret (pd_ct Z (fun _ _ => call_str_int) oc_str T.n_str (by decide +kernel) (pad_cons (pd_var Z 0 (by decide +kernel)) (pad_nil)) (by decide +kernel))))
abbrev N_is_box : List Str := ["program", "thing", "variable", "low", "high", "one"]
theorem sc_is_box : FnScope N_is_box ["program", "thing"] (defScope s_is_box) := ⟨rfl, rfl, rfl, by decide +kernel, rfl, by decide +kernel, by decide +kernel⟩
def b_is_box : B1 := sSeq (sIf (tOrD (tNotD (tVal (rE1 (fIsi "tuple") (rVar 1)))) (tNotD (tVal (rA fAll (aCons (rLc (aTup (rVar 1)) (gN 5) (tTrue) (rAnd (rE1 (fIsi "tuple") (rVar 5)) (rE2 fEq (rA fLen (aCons (rVar 5) (aNil))) (rC (.int 3)))) [5]) (aNil)))))) (sRet (rC (.bool false))) (sNext)) (sSeq (sIf (tNotD (tVal (rA fAll (aCons (rLc (aTup (rVar 1)) (gT [2, 3, 4]) (tTrue) (rE1 (fIsi "str") (rVar 2)) [2, 3, 4]) (aNil))))) (sRet (rC (.bool false))) (sNext)) (sSeq (sIf (tVal (rE2 fNe (rA fTuple (aCons (rLc (aTup (rVar 1)) (gT [2, 3, 4]) (tTrue) (rVar 2) [2, 3, 4]) (aNil))) (rE2 fIx (rVar 0) (rC (.int 0))))) (sRet (rC (.bool false))) (sNext)) (sRet (rA fAll (aCons (rLc (aTup (rVar 1)) (gT [2, 3, 4]) (tTrue) (rAnd (rCall 1 m_is_number (aCons (rVar 3) (aNil))) (rAnd (rCall 1 m_is_number (aCons (rVar 4) (aNil))) (rCall 2 m_is_less (aCons (rVar 3) (aCons (rVar 4) (aNil)))))) [2, 3, 4]) (aNil))))))
def m_is_box : List PyData → Option PyData := runB 6 b_is_box
theorem ck_is_box (T : Tp K w mg) : CalP P w K mg base 3 "is_box" ["program", "thing"] m_is_box := calP_of (k := 2) (ps := ["program", "thing"]) (nN := 6) (b := b_is_box) T.f_is_box sc_is_box rfl (fun _ _ _ _ _ _ us hl => match us, hl with | [_, _], _ => rfl) fun f Z =>
  pss1_cons (ps1_if (PWd.pt (pwd_or (ptd_not (ptd_val (pd_isi Z ty_tuple (pd_var Z 1 (by decide +kernel)) T.n_isinstance T.n_tuple (by decide +kernel) (by decide +kernel) (by decide +kernel)))) (pwd_or1 (ptd_not (ptd_val (pd_cb Z (zAll Z) oc_all T.n_all (by decide +kernel) (pad_cons (pd_lc Z [("one", 5)] (tgAt_n 5) (pid_tup Z (pd_var Z 1 (by decide +kernel))) (pgd_name (Z.blk _) 5 (by decide +kernel)) (ptsd_nil) (pd_and (pd_isi (Z.blk _) ty_tuple (pd_var (Z.blk _) 5 (by decide +kernel)) T.n_isinstance T.n_tuple (by decide +kernel) (by decide +kernel) (by decide +kernel)) (pd_one (pd_cmp (zEq (Z.blk _)) o2_eq (pd_cb (Z.blk _) (zLen (Z.blk _)) oc_len T.n_len (by decide +kernel) (pad_cons (pd_var (Z.blk _) 5 (by decide +kernel)) (pad_nil)) (by decide +kernel)) (pd_gd (Z.blk _) T.g_BOX_PARTS (by decide +kernel)) (by rfl)))) (by decide +kernel) (by decide +kernel)) (pad_nil)) (by decide +kernel))))))) (pss1_one (ps1_ret (pd_bl))) (pss1_nil)) (pss1_cons (ps1_if (ptd_not (ptd_val (pd_cb Z (zAll Z) oc_all T.n_all (by decide +kernel) (pad_cons (pd_lc Z [("variable", 2), ("low", 3), ("high", 4)] (tgAt_t [2, 3, 4]) (pid_tup Z (pd_var Z 1 (by decide +kernel))) (pgd_tup (Z.blk _) (pgsd_cons (Z.blk _) 2 (by decide +kernel) (pgsd_cons (Z.blk _) 3 (by decide +kernel) (pgsd_cons (Z.blk _) 4 (by decide +kernel) (pgsd_nil))))) (ptsd_nil) (pd_isi (Z.blk _) ty_str (pd_var (Z.blk _) 2 (by decide +kernel)) T.n_isinstance T.n_str (by decide +kernel) (by decide +kernel) (by decide +kernel)) (by decide +kernel) (by decide +kernel)) (pad_nil)) (by decide +kernel)))) (pss1_one (ps1_ret (pd_bl))) (pss1_nil)) (pss1_cons (ps1_if (ptd_cmp (zNe Z) o2_ne (pd_ct Z (zTuple Z) oc_tuple T.n_tuple (by decide +kernel) (pad_cons (pd_lc Z [("variable", 2), ("low", 3), ("high", 4)] (tgAt_t [2, 3, 4]) (pid_tup Z (pd_var Z 1 (by decide +kernel))) (pgd_tup (Z.blk _) (pgsd_cons (Z.blk _) 2 (by decide +kernel) (pgsd_cons (Z.blk _) 3 (by decide +kernel) (pgsd_cons (Z.blk _) 4 (by decide +kernel) (pgsd_nil))))) (ptsd_nil) (pd_var (Z.blk _) 2 (by decide +kernel)) (by decide +kernel) (by decide +kernel)) (pad_nil)) (by decide +kernel)) (pd_ix (zIx Z) o2_ix (pd_var Z 0 (by decide +kernel)) (pd_int)) (by rfl)) (pss1_one (ps1_ret (pd_bl))) (pss1_nil)) (pss1_one (ps1_ret (pd_cb Z (zAll Z) oc_all T.n_all (by decide +kernel) (pad_cons (pd_lc Z [("variable", 2), ("low", 3), ("high", 4)] (tgAt_t [2, 3, 4]) (pid_tup Z (pd_var Z 1 (by decide +kernel))) (pgd_tup (Z.blk _) (pgsd_cons (Z.blk _) 2 (by decide +kernel) (pgsd_cons (Z.blk _) 3 (by decide +kernel) (pgsd_cons (Z.blk _) 4 (by decide +kernel) (pgsd_nil))))) (ptsd_nil) (pd_and (pd_call (Z.blk _) (c_is_number T) (by omega) (pad_cons (pd_var (Z.blk _) 3 (by decide +kernel)) (pad_nil)) (by decide +kernel)) (pd_and (pd_call (Z.blk _) (c_is_number T) (by omega) (pad_cons (pd_var (Z.blk _) 4 (by decide +kernel)) (pad_nil)) (by decide +kernel)) (pd_one (pd_call (Z.blk _) (c_is_less T) (by omega) (pad_cons (pd_var (Z.blk _) 3 (by decide +kernel)) (pad_cons (pd_var (Z.blk _) 4 (by decide +kernel)) (pad_nil))) (by decide +kernel))))) (by decide +kernel) (by decide +kernel)) (pad_nil)) (by decide +kernel))))))
theorem c_is_box (T : Tp K w mg) : Cal P w K mg base 3 "is_box" 2 m_is_box := (ck_is_box T).cal rfl
abbrev N_is_integer_from : List Str := ["thing", "least"]
theorem sc_is_integer_from : FnScope N_is_integer_from ["thing", "least"] (defScope s_is_integer_from) := ⟨rfl, rfl, rfl, by decide +kernel, rfl, by decide +kernel, by decide +kernel⟩
def b_is_integer_from : B1 := sRet (rAnd (rE1 (fIsi "int") (rVar 0)) (rAnd (rNot (rE1 (fIsi "bool") (rVar 0))) (rE2 fGe (rVar 0) (rVar 1))))
def m_is_integer_from : List PyData → Option PyData := runB 2 b_is_integer_from
theorem c_is_integer_from (T : Tp K w mg) : Cal P w K mg base 1 "is_integer_from" 2 m_is_integer_from := cal_of (k := 0) (ps := ["thing", "least"]) (nN := 2) (b := b_is_integer_from) T.f_is_integer_from sc_is_integer_from rfl rfl (fun _ _ _ _ _ _ us hl => match us, hl with | [_, _], _ => rfl) fun f Z =>
  pss1_one (ps1_ret (pd_and (pd_isi Z ty_int (pd_var Z 0 (by decide +kernel)) T.n_isinstance T.n_int (by decide +kernel) (by decide +kernel) (by decide +kernel)) (pd_and (pd_not (pd_isi Z ty_bool (pd_var Z 0 (by decide +kernel)) T.n_isinstance T.n_bool (by decide +kernel) (by decide +kernel) (by decide +kernel))) (pd_one (pd_cmp (fun _ _ => op_ge) o2_ge (pd_var Z 0 (by decide +kernel)) (pd_var Z 1 (by decide +kernel)) (by rfl))))))
abbrev N_is_event_name : List Str := ["thing", "task", "place", "rounds", "kind", "number"]
theorem sc_is_event_name : FnScope N_is_event_name ["thing"] (defScope s_is_event_name) := ⟨rfl, rfl, rfl, by decide +kernel, rfl, by decide +kernel, by decide +kernel⟩
def b_is_event_name : B1 := sSeq (sIf (tOrD (tNotD (tVal (rE1 (fIsi "tuple") (rVar 0)))) (tVal (rE2 fNe (rA fLen (aCons (rVar 0) (aNil))) (rC (.int 4))))) (sRet (rC (.bool false))) (sNext)) (sSeq (sAsg (gT [1, 2, 3, 4]) (rVar 0)) (sSeq (sIf (tOrD (tNotD (tVal (rCall 2 m_is_integer_from (aCons (rVar 1) (aCons (rC (.int 0)) (aNil)))))) (tOrD (tNotD (tVal (rCall 2 m_is_integer_from (aCons (rVar 2) (aCons (rE1 fNeg (rC (.int 1))) (aNil)))))) (tNotD (tVal (rE1 (fIsi "tuple") (rVar 3)))))) (sRet (rC (.bool false))) (sNext)) (sSeq (sIf (tOrD (tVal (rE2 fGt (rA fLen (aCons (rVar 3) (aNil))) (rC (.int 2)))) (tNotD (tVal (rA fAll (aCons (rLc (aTup (rVar 3)) (gN 5) (tTrue) (rCall 2 m_is_integer_from (aCons (rVar 5) (aCons (rC (.int 0)) (aNil)))) [5]) (aNil)))))) (sRet (rC (.bool false))) (sNext)) (sRet (rAnd (rE1 (fIsi "str") (rVar 4)) (rE2 (fIn false) (rVar 4) (rC (.tuple [(.str "start"), (.str "step"), (.str "done"), (.str "timer"), (.str "finish")]))))))))
def m_is_event_name : List PyData → Option PyData := runB 6 b_is_event_name
theorem c_is_event_name (T : Tp K w mg) : Cal P w K mg base 2 "is_event_name" 1 m_is_event_name := cal_of (k := 1) (ps := ["thing"]) (nN := 6) (b := b_is_event_name) T.f_is_event_name sc_is_event_name rfl rfl (fun _ _ _ _ _ _ us hl => match us, hl with | [_], _ => rfl) fun f Z =>
  pss1_cons (ps1_if (PWd.pt (pwd_or (ptd_not (ptd_val (pd_isi Z ty_tuple (pd_var Z 0 (by decide +kernel)) T.n_isinstance T.n_tuple (by decide +kernel) (by decide +kernel) (by decide +kernel)))) (pwd_or1 (ptd_cmp (zNe Z) o2_ne (pd_cb Z (zLen Z) oc_len T.n_len (by decide +kernel) (pad_cons (pd_var Z 0 (by decide +kernel)) (pad_nil)) (by decide +kernel)) (pd_int) (by rfl))))) (pss1_one (ps1_ret (pd_bl))) (pss1_nil)) (pss1_cons (ps1_asg (pgd_tup Z (pgsd_cons Z 1 (by decide +kernel) (pgsd_cons Z 2 (by decide +kernel) (pgsd_cons Z 3 (by decide +kernel) (pgsd_cons Z 4 (by decide +kernel) (pgsd_nil)))))) (pd_var Z 0 (by decide +kernel))) (pss1_cons (ps1_if (PWd.pt (pwd_or (ptd_not (ptd_val (pd_call Z (c_is_integer_from T) (by omega) (pad_cons (pd_var Z 1 (by decide +kernel)) (pad_cons (pd_int) (pad_nil))) (by decide +kernel)))) (pwd_or (ptd_not (ptd_val (pd_call Z (c_is_integer_from T) (by omega) (pad_cons (pd_var Z 2 (by decide +kernel)) (pad_cons (pd_un (fun _ _ => un_neg) o1_neg (pd_int)) (pad_nil))) (by decide +kernel)))) (pwd_or1 (ptd_not (ptd_val (pd_isi Z ty_tuple (pd_var Z 3 (by decide +kernel)) T.n_isinstance T.n_tuple (by decide +kernel) (by decide +kernel) (by decide +kernel)))))))) (pss1_one (ps1_ret (pd_bl))) (pss1_nil)) (pss1_cons (ps1_if (PWd.pt (pwd_or (ptd_cmp (fun _ _ => op_gt) o2_gt (pd_cb Z (zLen Z) oc_len T.n_len (by decide +kernel) (pad_cons (pd_var Z 3 (by decide +kernel)) (pad_nil)) (by decide +kernel)) (pd_int) (by rfl)) (pwd_or1 (ptd_not (ptd_val (pd_cb Z (zAll Z) oc_all T.n_all (by decide +kernel) (pad_cons (pd_lc Z [("number", 5)] (tgAt_n 5) (pid_tup Z (pd_var Z 3 (by decide +kernel))) (pgd_name (Z.blk _) 5 (by decide +kernel)) (ptsd_nil) (pd_call (Z.blk _) (c_is_integer_from T) (by omega) (pad_cons (pd_var (Z.blk _) 5 (by decide +kernel)) (pad_cons (pd_int) (pad_nil))) (by decide +kernel)) (by decide +kernel) (by decide +kernel)) (pad_nil)) (by decide +kernel))))))) (pss1_one (ps1_ret (pd_bl))) (pss1_nil)) (pss1_one (ps1_ret (pd_and (pd_isi Z ty_str (pd_var Z 4 (by decide +kernel)) T.n_isinstance T.n_str (by decide +kernel) (by decide +kernel) (by decide +kernel)) (pd_one (pd_cmp (zIn Z) (o2_inA false) (pd_var Z 4 (by decide +kernel)) (pd_gd Z T.g_KINDS (by decide +kernel)) (by rfl)))))))))
abbrev N_show_name : List Str := ["name", "numbers", "task", "place", "rounds", "kind", "number"]
theorem sc_show_name : FnScope N_show_name ["name"] (defScope s_show_name) := ⟨rfl, rfl, rfl, by decide +kernel, rfl, by decide +kernel, by decide +kernel⟩
def b_show_name : B1 := sSeq (sAsg (gT [2, 3, 4, 5]) (rVar 0)) (sSeq (sAsg (gN 1) (rE2 fJoin (rC (.str ".")) (rLc (aTup (rVar 4)) (gN 6) (tTrue) (rA fStr (aCons (rVar 6) (aNil))) [6]))) (sRet (rJs [rFmt (rVar 2), fun _ => some ":", rFmt (rVar 3), fun _ => some ":", rFmt (rVar 1), fun _ => some ":", rFmt (rVar 5)])))
def m_show_name : List PyData → Option PyData := runB 7 b_show_name
theorem c_show_name (T : Tp K w mg) : Cal P w K mg base 1 "show_name" 1 m_show_name := cal_of (k := 0) (ps := ["name"]) (nN := 7) (b := b_show_name) T.f_show_name sc_show_name rfl rfl (fun _ _ _ _ _ _ us hl => match us, hl with | [_], _ => rfl) fun f Z =>
  pss1_cons (ps1_asg (pgd_tup Z (pgsd_cons Z 2 (by decide +kernel) (pgsd_cons Z 3 (by decide +kernel) (pgsd_cons Z 4 (by decide +kernel) (pgsd_cons Z 5 (by decide +kernel) (pgsd_nil)))))) (pd_var Z 0 (by decide +kernel))) (pss1_cons (ps1_set Z 1 (pd_join (pd_str) (pd_lc Z [("number", 6)] (tgAt_n 6) (pid_tup Z (pd_var Z 4 (by decide +kernel))) (pgd_name (Z.blk _) 6 (by decide +kernel)) (ptsd_nil) (pd_ct (Z.blk _) (fun _ _ => call_str_int) oc_str T.n_str (by decide +kernel) (pad_cons (pd_var (Z.blk _) 6 (by decide +kernel)) (pad_nil)) (by decide +kernel)) (by decide +kernel) (by decide +kernel)) Z) (by decide +kernel)) (pss1_one (ps1_ret (pd_joined (.cons (pfd_fmt (pd_var Z 2 (by decide +kernel))) (.cons (pfd_str) (.cons (pfd_fmt (pd_var Z 3 (by decide +kernel))) (.cons (pfd_str) (.cons (pfd_fmt (pd_var Z 1 (by decide +kernel))) (.cons (pfd_str) (.cons (pfd_fmt (pd_var Z 5 (by decide +kernel))) (.nil))))))))))))
abbrev N_is_digits : List Str := ["text", "sign"]
theorem sc_is_digits : FnScope N_is_digits ["text"] (defScope s_is_digits) := ⟨rfl, rfl, rfl, by decide +kernel, rfl, by decide +kernel, by decide +kernel⟩
def b_is_digits : B1 := sSeq (sIf (tOrD (tVal (rE2 fEq (rVar 0) (rC (.str "")))) (tNotD (tVal (rA fAll (aCons (rLc (aStr (rVar 0)) (gN 1) (tTrue) (rE2 (fIn false) (rVar 1) (rC (.str "0123456789"))) [1]) (aNil)))))) (sRet (rC (.bool false))) (sNext)) (sRet (rOr (rE2 fEq (rVar 0) (rC (.str "0"))) (rE2 fNe (rE2 fIx (rVar 0) (rC (.int 0))) (rC (.str "0")))))
def m_is_digits : List PyData → Option PyData := runB 2 b_is_digits
theorem c_is_digits (T : Tp K w mg) : Cal P w K mg base 1 "is_digits" 1 m_is_digits := cal_of (k := 0) (ps := ["text"]) (nN := 2) (b := b_is_digits) T.f_is_digits sc_is_digits rfl rfl (fun _ _ _ _ _ _ us hl => match us, hl with | [_], _ => rfl) fun f Z =>
  pss1_cons (ps1_if (PWd.pt (pwd_or (ptd_cmp (zEq Z) o2_eq (pd_var Z 0 (by decide +kernel)) (pd_str) (by rfl)) (pwd_or1 (ptd_not (ptd_val (pd_cb Z (zAll Z) oc_all T.n_all (by decide +kernel) (pad_cons (pd_lc Z [("sign", 1)] (tgAt_n 1) (pid_str (pd_var Z 0 (by decide +kernel))) (pgd_name (Z.blk _) 1 (by decide +kernel)) (ptsd_nil) (pd_cmp (zIn (Z.blk _)) (o2_inA false) (pd_var (Z.blk _) 1 (by decide +kernel)) (pd_gd (Z.blk _) T.g_DIGITS_eventnames (by decide +kernel)) (by rfl)) (by decide +kernel) (by decide +kernel)) (pad_nil)) (by decide +kernel))))))) (pss1_one (ps1_ret (pd_bl))) (pss1_nil)) (pss1_one (ps1_ret (pd_or (pd_cmp (zEq Z) o2_eq (pd_var Z 0 (by decide +kernel)) (pd_str) (by rfl)) (pd_one (pd_cmp (zNe Z) o2_ne (pd_ix (zIx Z) o2_ix (pd_var Z 0 (by decide +kernel)) (pd_int)) (pd_str) (by rfl))))))
abbrev N_read_name : List Str := ["text", "parts", "rounds", "name", "number"]
theorem sc_read_name : FnScope N_read_name ["text"] (defScope s_read_name) := ⟨rfl, rfl, rfl, by decide +kernel, rfl, by decide +kernel, by decide +kernel⟩
def b_read_name : B1 := sSeq (sAsg (gN 1) (rE2 fSplit (rVar 0) (rC (.str ":")))) (sSeq (sIf (tOrD (tVal (rE2 fNe (rA fLen (aCons (rVar 1) (aNil))) (rC (.int 4)))) (tOrD (tNotD (tVal (rCall 1 m_is_digits (aCons (rE2 fIx (rVar 1) (rC (.int 0))) (aNil))))) (tAndD (tVal (rE2 fNe (rE2 fIx (rVar 1) (rC (.int 1))) (rC (.str "-1")))) (tNotD (tVal (rCall 1 m_is_digits (aCons (rE2 fIx (rVar 1) (rC (.int 1))) (aNil)))))))) (sRet (rC .none)) (sNext)) (sSeq (sAsg (gN 2) (rIf (tVal (rE2 fNe (rE2 fIx (rVar 1) (rC (.int 2))) (rC (.str "")))) (rE2 fSplit (rE2 fIx (rVar 1) (rC (.int 2))) (rC (.str "."))) (rA mkLst (aNil)))) (sSeq (sIf (tNotD (tVal (rA fAll (aCons (rLc (aList (rVar 2)) (gN 4) (tTrue) (rCall 1 m_is_digits (aCons (rVar 4) (aNil))) [4]) (aNil))))) (sRet (rC .none)) (sNext)) (sSeq (sAsg (gN 3) (rA mkTup (aCons (rA fInt (aCons (rE2 fIx (rVar 1) (rC (.int 0))) (aNil))) (aCons (rA fInt (aCons (rE2 fIx (rVar 1) (rC (.int 1))) (aNil))) (aCons (rA fTuple (aCons (rLc (aList (rVar 2)) (gN 4) (tTrue) (rA fInt (aCons (rVar 4) (aNil))) [4]) (aNil))) (aCons (rE2 fIx (rVar 1) (rC (.int 3))) (aNil))))))) (sRet (rIf (tVal (rCall 1 m_is_event_name (aCons (rVar 3) (aNil)))) (rVar 3) (rC .none)))))))
def m_read_name : List PyData → Option PyData := runB 5 b_read_name
theorem c_read_name (T : Tp K w mg) : Cal P w K mg base 3 "read_name" 1 m_read_name := cal_of (k := 2) (ps := ["text"]) (nN := 5) (b := b_read_name) T.f_read_name sc_read_name rfl rfl (fun _ _ _ _ _ _ us hl => match us, hl with | [_], _ => rfl) fun f Z =>
  pss1_cons (ps1_set Z 1 (pd_split (pd_var Z 0 (by decide +kernel)) (pd_str)) (by decide +kernel)) (pss1_cons (ps1_if (PWd.pt (pwd_or (ptd_cmp (zNe Z) o2_ne (pd_cb Z (zLen Z) oc_len T.n_len (by decide +kernel) (pad_cons (pd_var Z 1 (by decide +kernel)) (pad_nil)) (by decide +kernel)) (pd_int) (by rfl)) (pwd_or (ptd_not (ptd_val (pd_call Z (c_is_digits T) (by omega) (pad_cons (pd_ix (zIx Z) o2_ix (pd_var Z 1 (by decide +kernel)) (pd_int)) (pad_nil)) (by decide +kernel)))) (pwd_or1 (PWd.pt (pwd_and (ptd_cmp (zNe Z) o2_ne (pd_ix (zIx Z) o2_ix (pd_var Z 1 (by decide +kernel)) (pd_int)) (pd_str) (by rfl)) (pwd_and1 (ptd_not (ptd_val (pd_call Z (c_is_digits T) (by omega) (pad_cons (pd_ix (zIx Z) o2_ix (pd_var Z 1 (by decide +kernel)) (pd_int)) (pad_nil)) (by decide +kernel))))))))))) (pss1_one (ps1_ret (pd_non))) (pss1_nil)) (pss1_cons (ps1_set Z 2 (pd_if (ptd_cmp (zNe Z) o2_ne (pd_ix (zIx Z) o2_ix (pd_var Z 1 (by decide +kernel)) (pd_int)) (pd_str) (by rfl)) (pd_split (pd_ix (zIx Z) o2_ix (pd_var Z 1 (by decide +kernel)) (pd_int)) (pd_str)) (pd_lst (pad_nil))) (by decide +kernel)) (pss1_cons (ps1_if (ptd_not (ptd_val (pd_cb Z (zAll Z) oc_all T.n_all (by decide +kernel) (pad_cons (pd_lc Z [("number", 4)] (tgAt_n 4) (pid_list Z (pd_var Z 2 (by decide +kernel))) (pgd_name (Z.blk _) 4 (by decide +kernel)) (ptsd_nil) (pd_call (Z.blk _) (c_is_digits T) (by omega) (pad_cons (pd_var (Z.blk _) 4 (by decide +kernel)) (pad_nil)) (by decide +kernel)) (by decide +kernel) (by decide +kernel)) (pad_nil)) (by decide +kernel)))) (pss1_one (ps1_ret (pd_non))) (pss1_nil)) (pss1_cons (ps1_set Z 3 (pd_tup (pad_cons (pd_ct Z (fun _ _ => call_intA) oc_int T.n_int (by decide +kernel) (pad_cons (pd_ix (zIx Z) o2_ix (pd_var Z 1 (by decide +kernel)) (pd_int)) (pad_nil)) (by decide +kernel)) (pad_cons (pd_ct Z (fun _ _ => call_intA) oc_int T.n_int (by decide +kernel) (pad_cons (pd_ix (zIx Z) o2_ix (pd_var Z 1 (by decide +kernel)) (pd_int)) (pad_nil)) (by decide +kernel)) (pad_cons (pd_ct Z (zTuple Z) oc_tuple T.n_tuple (by decide +kernel) (pad_cons (pd_lc Z [("number", 4)] (tgAt_n 4) (pid_list Z (pd_var Z 2 (by decide +kernel))) (pgd_name (Z.blk _) 4 (by decide +kernel)) (ptsd_nil) (pd_ct (Z.blk _) (fun _ _ => call_intA) oc_int T.n_int (by decide +kernel) (pad_cons (pd_var (Z.blk _) 4 (by decide +kernel)) (pad_nil)) (by decide +kernel)) (by decide +kernel) (by decide +kernel)) (pad_nil)) (by decide +kernel)) (pad_cons (pd_ix (zIx Z) o2_ix (pd_var Z 1 (by decide +kernel)) (pd_int)) (pad_nil)))))) (by decide +kernel)) (pss1_one (ps1_ret (pd_if (ptd_val (pd_call Z (c_is_event_name T) (by omega) (pad_cons (pd_var Z 3 (by decide +kernel)) (pad_nil)) (by decide +kernel))) (pd_var Z 3 (by decide +kernel)) (pd_non))))))))
abbrev N_are_pairs : List Str := ["thing", "one"]
theorem sc_are_pairs : FnScope N_are_pairs ["thing"] (defScope s_are_pairs) := ⟨rfl, rfl, rfl, by decide +kernel, rfl, by decide +kernel, by decide +kernel⟩
def b_are_pairs : B1 := sRet (rAnd (rE1 (fIsi "tuple") (rVar 0)) (rA fAll (aCons (rLc (aTup (rVar 0)) (gN 1) (tTrue) (rAnd (rE1 (fIsi "tuple") (rVar 1)) (rE2 fEq (rA fLen (aCons (rVar 1) (aNil))) (rC (.int 2)))) [1]) (aNil))))
def m_are_pairs : List PyData → Option PyData := runB 2 b_are_pairs
theorem c_are_pairs (T : Tp K w mg) : Cal P w K mg base 1 "are_pairs" 1 m_are_pairs := cal_of (k := 0) (ps := ["thing"]) (nN := 2) (b := b_are_pairs) T.f_are_pairs sc_are_pairs rfl rfl (fun _ _ _ _ _ _ us hl => match us, hl with | [_], _ => rfl) fun f Z =>
  pss1_one (ps1_ret (pd_and (pd_isi Z ty_tuple (pd_var Z 0 (by decide +kernel)) T.n_isinstance T.n_tuple (by decide +kernel) (by decide +kernel) (by decide +kernel)) (pd_one (pd_cb Z (zAll Z) oc_all T.n_all (by decide +kernel) (pad_cons (pd_lc Z [("one", 1)] (tgAt_n 1) (pid_tup Z (pd_var Z 0 (by decide +kernel))) (pgd_name (Z.blk _) 1 (by decide +kernel)) (ptsd_nil) (pd_and (pd_isi (Z.blk _) ty_tuple (pd_var (Z.blk _) 1 (by decide +kernel)) T.n_isinstance T.n_tuple (by decide +kernel) (by decide +kernel) (by decide +kernel)) (pd_one (pd_cmp (zEq (Z.blk _)) o2_eq (pd_cb (Z.blk _) (zLen (Z.blk _)) oc_len T.n_len (by decide +kernel) (pad_cons (pd_var (Z.blk _) 1 (by decide +kernel)) (pad_nil)) (by decide +kernel)) (pd_int) (by rfl)))) (by decide +kernel) (by decide +kernel)) (pad_nil)) (by decide +kernel)))))
abbrev N_is_between : List Str := ["thing", "low", "high"]
theorem sc_is_between : FnScope N_is_between ["thing", "low", "high"] (defScope s_is_between) := ⟨rfl, rfl, rfl, by decide +kernel, rfl, by decide +kernel, by decide +kernel⟩
def b_is_between : B1 := sRet (rAnd (rCall 1 m_is_integer (aCons (rVar 0) (aNil))) (rChain fLe fLe (rVar 1) (rVar 0) (rVar 2)))
def m_is_between : List PyData → Option PyData := runB 3 b_is_between
theorem c_is_between (T : Tp K w mg) : Cal P w K mg base 2 "is_between" 3 m_is_between := cal_of (k := 1) (ps := ["thing", "low", "high"]) (nN := 3) (b := b_is_between) T.f_is_between sc_is_between rfl rfl (fun _ _ _ _ _ _ us hl => match us, hl with | [_, _, _], _ => rfl) fun f Z =>
  pss1_one (ps1_ret (pd_and (pd_call Z (c_is_integer T) (by omega) (pad_cons (pd_var Z 0 (by decide +kernel)) (pad_nil)) (by decide +kernel)) (pd_one (pd_chain (fun _ _ => op_le) (fun _ _ => op_le) o2_le o2_le (pd_var Z 1 (by decide +kernel)) (pd_var Z 0 (by decide +kernel)) (pd_var Z 2 (by decide +kernel))))))
abbrev N_is_in_range : List Str := ["thing"]
theorem sc_is_in_range : FnScope N_is_in_range ["thing"] (defScope s_is_in_range) := ⟨rfl, rfl, rfl, by decide +kernel, rfl, by decide +kernel, by decide +kernel⟩
def b_is_in_range : B1 := sRet (rCall 3 m_is_between (aCons (rVar 0) (aCons (rE1 fNeg (rC (.int 1000000))) (aCons (rC (.int 1000000)) (aNil)))))
def m_is_in_range : List PyData → Option PyData := runB 1 b_is_in_range
theorem c_is_in_range (T : Tp K w mg) : Cal P w K mg base 3 "is_in_range" 1 m_is_in_range := cal_of (k := 2) (ps := ["thing"]) (nN := 1) (b := b_is_in_range) T.f_is_in_range sc_is_in_range rfl rfl (fun _ _ _ _ _ _ us hl => match us, hl with | [_], _ => rfl) fun f Z =>
  pss1_one (ps1_ret (pd_call Z (c_is_between T) (by omega) (pad_cons (pd_var Z 0 (by decide +kernel)) (pad_cons (pd_un (fun _ _ => un_neg) o1_neg (pd_gd Z T.g_FARTHEST (by decide +kernel))) (pad_cons (pd_gd Z T.g_FARTHEST (by decide +kernel)) (pad_nil)))) (by decide +kernel)))
abbrev N_is_name : List Str := ["thing", "letter"]
theorem sc_is_name : FnScope N_is_name ["thing"] (defScope s_is_name) := ⟨rfl, rfl, rfl, by decide +kernel, rfl, by decide +kernel, by decide +kernel⟩
def b_is_name : B1 := sSeq (sIf (tOrD (tNotD (tVal (rE1 (fIsi "str") (rVar 0)))) (tNotD (tVal (rChain fLe fLe (rC (.int 1)) (rA fLen (aCons (rVar 0) (aNil))) (rC (.int 8)))))) (sRet (rC (.bool false))) (sNext)) (sRet (rA fAll (aCons (rLc (aStr (rVar 0)) (gN 1) (tTrue) (rE2 (fIn false) (rVar 1) (rC (.str "abcdefghijklmnopqrstuvwxyz"))) [1]) (aNil))))
def m_is_name : List PyData → Option PyData := runB 2 b_is_name
theorem c_is_name (T : Tp K w mg) : Cal P w K mg base 1 "is_name" 1 m_is_name := cal_of (k := 0) (ps := ["thing"]) (nN := 2) (b := b_is_name) T.f_is_name sc_is_name rfl rfl (fun _ _ _ _ _ _ us hl => match us, hl with | [_], _ => rfl) fun f Z =>
  pss1_cons (ps1_if (PWd.pt (pwd_or (ptd_not (ptd_val (pd_isi Z ty_str (pd_var Z 0 (by decide +kernel)) T.n_isinstance T.n_str (by decide +kernel) (by decide +kernel) (by decide +kernel)))) (pwd_or1 (ptd_not (ptd_chain (fun _ _ => op_le) (fun _ _ => op_le) o2_le o2_le (pd_int) (pd_cb Z (zLen Z) oc_len T.n_len (by decide +kernel) (pad_cons (pd_var Z 0 (by decide +kernel)) (pad_nil)) (by decide +kernel)) (pd_gd Z T.g_LONGEST_NAME (by decide +kernel))))))) (pss1_one (ps1_ret (pd_bl))) (pss1_nil)) (pss1_one (ps1_ret (pd_cb Z (zAll Z) oc_all T.n_all (by decide +kernel) (pad_cons (pd_lc Z [("letter", 1)] (tgAt_n 1) (pid_str (pd_var Z 0 (by decide +kernel))) (pgd_name (Z.blk _) 1 (by decide +kernel)) (ptsd_nil) (pd_cmp (zIn (Z.blk _)) (o2_inA false) (pd_var (Z.blk _) 1 (by decide +kernel)) (pd_gd (Z.blk _) T.g_LETTERS (by decide +kernel)) (by rfl)) (by decide +kernel) (by decide +kernel)) (pad_nil)) (by decide +kernel))))
abbrev N_is_one_of : List Str := ["thing", "words"]
theorem sc_is_one_of : FnScope N_is_one_of ["thing", "words"] (defScope s_is_one_of) := ⟨rfl, rfl, rfl, by decide +kernel, rfl, by decide +kernel, by decide +kernel⟩
def b_is_one_of : B1 := sRet (rAnd (rE1 (fIsi "str") (rVar 0)) (rE2 (fIn false) (rVar 0) (rVar 1)))
def m_is_one_of : List PyData → Option PyData := runB 2 b_is_one_of
theorem c_is_one_of (T : Tp K w mg) : Cal P w K mg base 1 "is_one_of" 2 m_is_one_of := cal_of (k := 0) (ps := ["thing", "words"]) (nN := 2) (b := b_is_one_of) T.f_is_one_of sc_is_one_of rfl rfl (fun _ _ _ _ _ _ us hl => match us, hl with | [_, _], _ => rfl) fun f Z =>
  pss1_one (ps1_ret (pd_and (pd_isi Z ty_str (pd_var Z 0 (by decide +kernel)) T.n_isinstance T.n_str (by decide +kernel) (by decide +kernel) (by decide +kernel)) (pd_one (pd_cmp (zIn Z) (o2_inA false) (pd_var Z 0 (by decide +kernel)) (pd_var Z 1 (by decide +kernel)) (by rfl)))))
abbrev N_is_expression : List Str := ["thing", "variables", "cells", "levels", "word", "known", "given", "part"]
theorem sc_is_expression : FnScope N_is_expression ["thing", "variables", "cells", "levels"] (defScope s_is_expression) := ⟨rfl, rfl, rfl, by decide +kernel, rfl, by decide +kernel, by decide +kernel⟩
def b_is_expression (m : List PyData → Option PyData) : B1 := sSeq (sIf (tVal (rE2 fLt (rVar 3) (rC (.int 1)))) (sRet (rC (.bool false))) (sNext)) (sSeq (sIf (tVal (rCall 1 m_is_integer (aCons (rVar 0) (aNil)))) (sRet (rCall 1 m_is_in_range (aCons (rVar 0) (aNil)))) (sNext)) (sSeq (sIf (tOrD (tNotD (tVal (rE1 (fIsi "tuple") (rVar 0)))) (tOrD (tVal (rE2 (fIn true) (rA fLen (aCons (rVar 0) (aNil))) (rA mkTup (aCons (rC (.int 2)) (aCons (rC (.int 3)) (aNil)))))) (tNotD (tVal (rE1 (fIsi "str") (rE2 fIx (rVar 0) (rC (.int 0)))))))) (sRet (rC (.bool false))) (sNext)) (sSeq (sAsg (gSt 4 6) (rVar 0)) (sSeq (sIf (tVal (rE2 fEq (rA fLen (aCons (rVar 6) (aNil))) (rC (.int 1)))) (sSeq (sDk 5 (dCons "variable" (rVar 1) (dCons "cell" (rVar 2) (dNil)))) (sRet (rAnd (rDkIn 5 (rVar 4)) (rCall 2 m_is_one_of (aCons (rE2 fIx (rVar 6) (rC (.int 0))) (aCons (rDkGet 5 (rVar 4)) (aNil))))))) (sNext)) (sSeq (sIf (tVal (rE2 fEq (rVar 4) (rC (.str "times")))) (sRet (rAnd (rCall 1 m_is_in_range (aCons (rE2 fIx (rVar 6) (rC (.int 0))) (aNil))) (rCall 4 m (aCons (rE2 fIx (rVar 6) (rC (.int 1))) (aCons (rVar 1) (aCons (rVar 2) (aCons (rE2 fSub (rVar 3) (rC (.int 1))) (aNil)))))))) (sNext)) (sSeq (sIf (tVal (rE2 (fIn true) (rVar 4) (rA mkTup (aCons (rC (.str "plus")) (aCons (rC (.str "minus")) (aNil)))))) (sRet (rC (.bool false))) (sNext)) (sRet (rA fAll (aCons (rLc (aList (rVar 6)) (gN 7) (tTrue) (rCall 4 m (aCons (rVar 7) (aCons (rVar 1) (aCons (rVar 2) (aCons (rE2 fSub (rVar 3) (rC (.int 1))) (aNil)))))) [7]) (aNil))))))))))
def m_is_expression : Nat → List PyData → Option PyData
  | 0 => fun _ => none
  | n + 1 => runB 8 (b_is_expression (m_is_expression n))
theorem bi_is_expression : Bind1 "is_expression" s_is_expression ["thing", "variables", "cells", "levels"] 3 := ⟨fun _ _ _ _ _ _ _ us its hl hi => match us, hl, its, hi with | [_, _, _, _], _, [_], _ => ⟨_, rfl, rfl⟩, fun _ _ _ _ _ _ _ us its hl hi => match us, hl, its, hi with | [_, _, _], _, [_], _ => ⟨_, rfl, rfl⟩⟩
theorem w_is_expression (T : Tp K w mg) (n : Nat) (ih : Cal P w K mg base (3 + n) "is_expression" 4 (m_is_expression n)) (f : Addr) (Z : Fam (Bod P w K mg base N_is_expression "is_expression" (defScope s_is_expression) f (3 + n)) P w K mg base N_is_expression (defScope s_is_expression) (3 + n) true) : PSsd (Bod P w K mg base N_is_expression "is_expression" (defScope s_is_expression) f (3 + n)) K (defBody s_is_expression) (b_is_expression (m_is_expression n)) :=
  pss1_cons (ps1_if (ptd_cmp (fun _ _ => op_lt) o2_lt (pd_var Z 3 (by decide +kernel)) (pd_int) (by rfl)) (pss1_one (ps1_ret (pd_bl))) (pss1_nil)) (pss1_cons (ps1_if (ptd_val (pd_call Z (c_is_integer T) (by omega) (pad_cons (pd_var Z 0 (by decide +kernel)) (pad_nil)) (by decide +kernel))) (pss1_one (ps1_ret (pd_call Z (c_is_in_range T) (by omega) (pad_cons (pd_var Z 0 (by decide +kernel)) (pad_nil)) (by decide +kernel)))) (pss1_nil)) (pss1_cons (ps1_if (PWd.pt (pwd_or (ptd_not (ptd_val (pd_isi Z ty_tuple (pd_var Z 0 (by decide +kernel)) T.n_isinstance T.n_tuple (by decide +kernel) (by decide +kernel) (by decide +kernel)))) (pwd_or (ptd_cmp (zNotIn Z) (o2_inA true) (pd_cb Z (zLen Z) oc_len T.n_len (by decide +kernel) (pad_cons (pd_var Z 0 (by decide +kernel)) (pad_nil)) (by decide +kernel)) (pd_tup (pad_cons (pd_int) (pad_cons (pd_int) (pad_nil)))) (by rfl)) (pwd_or1 (ptd_not (ptd_val (pd_isi Z ty_str (pd_ix (zIx Z) o2_ix (pd_var Z 0 (by decide +kernel)) (pd_int)) T.n_isinstance T.n_str (by decide +kernel) (by decide +kernel) (by decide +kernel)))))))) (pss1_one (ps1_ret (pd_bl))) (pss1_nil)) (pss1_cons (ps1_asgF (pd_var Z 0 (by decide +kernel)) (pgf_st Z 4 6 (by decide +kernel) (by decide +kernel))) (pss1_cons (ps1_if (ptd_cmp (zEq Z) o2_eq (pd_cb Z (zLen Z) oc_len T.n_len (by decide +kernel) (pad_cons (pd_var Z 6 (by decide +kernel)) (pad_nil)) (by decide +kernel)) (pd_int) (by rfl)) (pss1_cons (ps1_dk Z 5 (by decide +kernel) (pdd_cons (pd_var Z 1 (by decide +kernel)) (pdd_cons (pd_var Z 2 (by decide +kernel)) (pdd_nil)))) (pss1_one (ps1_ret (pd_and (pd_dkIn Z 5 (by decide +kernel) (pd_var Z 4 (by decide +kernel))) (pd_one (pd_call Z (c_is_one_of T) (by omega) (pad_cons (pd_ix (zIx Z) o2_ix (pd_var Z 6 (by decide +kernel)) (pd_int)) (pad_cons (pd_dkGet Z 5 (by decide +kernel) (pd_var Z 4 (by decide +kernel))) (pad_nil))) (by decide +kernel))))))) (pss1_nil)) (pss1_cons (ps1_if (ptd_cmp (zEq Z) o2_eq (pd_var Z 4 (by decide +kernel)) (pd_str) (by rfl)) (pss1_one (ps1_ret (pd_and (pd_call Z (c_is_in_range T) (by omega) (pad_cons (pd_ix (zIx Z) o2_ix (pd_var Z 6 (by decide +kernel)) (pd_int)) (pad_nil)) (by decide +kernel)) (pd_one (pd_call Z ih (by omega) (pad_cons (pd_ix (zIx Z) o2_ix (pd_var Z 6 (by decide +kernel)) (pd_int)) (pad_cons (pd_var Z 1 (by decide +kernel)) (pad_cons (pd_var Z 2 (by decide +kernel)) (pad_cons (pd_bin (fun _ _ => op_sub) o2_sub (pd_var Z 3 (by decide +kernel)) (pd_int)) (pad_nil))))) (by decide +kernel)))))) (pss1_nil)) (pss1_cons (ps1_if (ptd_cmp (zNotIn Z) (o2_inA true) (pd_var Z 4 (by decide +kernel)) (pd_tup (pad_cons (pd_str) (pad_cons (pd_str) (pad_nil)))) (by rfl)) (pss1_one (ps1_ret (pd_bl))) (pss1_nil)) (pss1_one (ps1_ret (pd_cb Z (zAll Z) oc_all T.n_all (by decide +kernel) (pad_cons (pd_lc Z [("part", 7)] (tgAt_n 7) (pid_list Z (pd_var Z 6 (by decide +kernel))) (pgd_name (Z.blk _) 7 (by decide +kernel)) (ptsd_nil) (pd_call (Z.blk _) ih (by omega) (pad_cons (pd_var (Z.blk _) 7 (by decide +kernel)) (pad_cons (pd_var (Z.blk _) 1 (by decide +kernel)) (pad_cons (pd_var (Z.blk _) 2 (by decide +kernel)) (pad_cons (pd_bin (fun _ _ => op_sub) o2_sub (pd_var (Z.blk _) 3 (by decide +kernel)) (pd_int)) (pad_nil))))) (by decide +kernel)) (by decide +kernel) (by decide +kernel)) (pad_nil)) (by decide +kernel))))))))))
theorem c_is_expression (T : Tp K w mg) : ∀ n, Cal P w K mg base (3 + n) "is_expression" 4 (m_is_expression n)
  | 0 => cal_zeroD (ps := ["thing", "variables", "cells", "levels"]) T.f_is_expression rfl bi_is_expression
  | n + 1 => cal_ofD (k := 3 + n) (ps := ["thing", "variables", "cells", "levels"]) (nN := 8) (b := b_is_expression (m_is_expression n)) T.f_is_expression sc_is_expression rfl rfl bi_is_expression fun f Z => w_is_expression T n (c_is_expression T n) f Z
theorem c_is_expression3 (T : Tp K w mg) (n : Nat) : Cal1 P w K mg base (3 + n + 1) "is_expression" 3 (m_is_expression (n + 1)) (.int 4) :=
  cal_ofD1 (k := 3 + n) (ps := ["thing", "variables", "cells", "levels"]) (nN := 8) (b := b_is_expression (m_is_expression n)) T.f_is_expression sc_is_expression rfl rfl bi_is_expression (fun _ => .int 4) fun f Z => w_is_expression T n (c_is_expression T n) f Z
abbrev N_is_measure : List Str := ["thing", "names", "name", "number", "one", "other"]
theorem sc_is_measure : FnScope N_is_measure ["thing"] (defScope s_is_measure) := ⟨rfl, rfl, rfl, by decide +kernel, rfl, by decide +kernel, by decide +kernel⟩
def b_is_measure : B1 := sSeq (sIf (tOrD (tNotD (tVal (rCall 1 m_are_pairs (aCons (rVar 0) (aNil))))) (tNotD (tVal (rChain fLe fLe (rC (.int 1)) (rA fLen (aCons (rVar 0) (aNil))) (rC (.int 4)))))) (sRet (rC (.bool false))) (sNext)) (sSeq (sIf (tNotD (tVal (rA fAll (aCons (rLc (aTup (rVar 0)) (gT [2, 3]) (tTrue) (rAnd (rCall 1 m_is_event_name (aCons (rVar 2) (aNil))) (rAnd (rCall 1 m_is_number (aCons (rVar 3) (aNil))) (rE2 fNe (rVar 3) (rC (.int 0))))) [2, 3]) (aNil))))) (sRet (rC (.bool false))) (sNext)) (sSeq (sAsg (gN 1) (rLc (aTup (rVar 0)) (gT [2, 3]) (tTrue) (rVar 2) [2, 3])) (sRet (rA fAll (aCons (rLc (aZip (aCons (rVar 1) (aCons (rCut (rVar 1) (oSome (rC (.int 1))) (oNone)) (aNil)))) (gT [4, 5]) (tTrue) (rE2 fLtD (rVar 4) (rVar 5)) [4, 5]) (aNil))))))
def m_is_measure : List PyData → Option PyData := runB 6 b_is_measure
theorem ck_is_measure (T : Tp K w mg) : CalP P w K mg base 3 "is_measure" ["thing"] m_is_measure := calP_of (k := 2) (ps := ["thing"]) (nN := 6) (b := b_is_measure) T.f_is_measure sc_is_measure rfl (fun _ _ _ _ _ _ us hl => match us, hl with | [_], _ => rfl) fun f Z =>
  pss1_cons (ps1_if (PWd.pt (pwd_or (ptd_not (ptd_val (pd_call Z (c_are_pairs T) (by omega) (pad_cons (pd_var Z 0 (by decide +kernel)) (pad_nil)) (by decide +kernel)))) (pwd_or1 (ptd_not (ptd_chain (fun _ _ => op_le) (fun _ _ => op_le) o2_le o2_le (pd_int) (pd_cb Z (zLen Z) oc_len T.n_len (by decide +kernel) (pad_cons (pd_var Z 0 (by decide +kernel)) (pad_nil)) (by decide +kernel)) (pd_gd Z T.g_MOST_PARTS (by decide +kernel))))))) (pss1_one (ps1_ret (pd_bl))) (pss1_nil)) (pss1_cons (ps1_if (ptd_not (ptd_val (pd_cb Z (zAll Z) oc_all T.n_all (by decide +kernel) (pad_cons (pd_lc Z [("name", 2), ("number", 3)] (tgAt_t [2, 3]) (pid_tup Z (pd_var Z 0 (by decide +kernel))) (pgd_tup (Z.blk _) (pgsd_cons (Z.blk _) 2 (by decide +kernel) (pgsd_cons (Z.blk _) 3 (by decide +kernel) (pgsd_nil)))) (ptsd_nil) (pd_and (pd_call (Z.blk _) (c_is_event_name T) (by omega) (pad_cons (pd_var (Z.blk _) 2 (by decide +kernel)) (pad_nil)) (by decide +kernel)) (pd_and (pd_call (Z.blk _) (c_is_number T) (by omega) (pad_cons (pd_var (Z.blk _) 3 (by decide +kernel)) (pad_nil)) (by decide +kernel)) (pd_one (pd_cmp (zNe (Z.blk _)) o2_ne (pd_var (Z.blk _) 3 (by decide +kernel)) (pd_int) (by rfl))))) (by decide +kernel) (by decide +kernel)) (pad_nil)) (by decide +kernel)))) (pss1_one (ps1_ret (pd_bl))) (pss1_nil)) (pss1_cons (ps1_setLc Z 1 [("name", 2), ("number", 3)] (tgAt_t [2, 3]) (pid_tup Z (pd_var Z 0 (by decide +kernel))) (pgd_tup (Z.blk _) (pgsd_cons (Z.blk _) 2 (by decide +kernel) (pgsd_cons (Z.blk _) 3 (by decide +kernel) (pgsd_nil)))) (ptsd_nil) (pd_var (Z.blk _) 2 (by decide +kernel)) (by decide +kernel) (by decide +kernel) rfl (by rfl) (by rfl) (by rfl) (by decide +kernel)) (pss1_one (ps1_ret (pd_cb Z (zAll Z) oc_all T.n_all (by decide +kernel) (pad_cons (pd_lc Z [("one", 4), ("other", 5)] (tgAt_t [4, 5]) (pid_zip Z T.n_zip (pad_cons (pd_var Z 1 (by decide +kernel)) (pad_cons (pd_slice Z (pd_var Z 1 (by decide +kernel)) (pod_some (pd_int)) (pod_none)) (pad_nil))) (by decide +kernel)) (pgd_tup (Z.blk _) (pgsd_cons (Z.blk _) 4 (by decide +kernel) (pgsd_cons (Z.blk _) 5 (by decide +kernel) (pgsd_nil)))) (ptsd_nil) (pd_cmp (zLtD (Z.blk _)) o2_ltD (pd_var (Z.blk _) 4 (by decide +kernel)) (pd_var (Z.blk _) 5 (by decide +kernel)) (by rfl)) (by decide +kernel) (by decide +kernel)) (pad_nil)) (by decide +kernel))))))
theorem c_is_measure (T : Tp K w mg) : Cal P w K mg base 3 "is_measure" 1 m_is_measure := (ck_is_measure T).cal rfl
abbrev N_show_expression : List Str := ["expression", "word", "given"]
theorem sc_show_expression : FnScope N_show_expression ["expression"] (defScope s_show_expression) := ⟨rfl, rfl, rfl, by decide +kernel, rfl, by decide +kernel, by decide +kernel⟩
def b_show_expression (m : List PyData → Option PyData) : B1 := sSeq (sIf (tVal (rE1 (fIsi "int") (rVar 0))) (sRet (rA fStr (aCons (rVar 0) (aNil)))) (sNext)) (sSeq (sAsg (gSt 1 2) (rVar 0)) (sSeq (sIf (tVal (rE2 fEq (rVar 1) (rC (.str "variable")))) (sRet (rE2 fIx (rVar 2) (rC (.int 0)))) (sNext)) (sSeq (sIf (tVal (rE2 fEq (rVar 1) (rC (.str "cell")))) (sRet (rE2 fAdd (rC (.str "@")) (rE2 fIx (rVar 2) (rC (.int 0))))) (sNext)) (sRet (rJs [fun _ => some "(", rFmt (rCall 1 m (aCons (rE2 fIx (rVar 2) (rC (.int 0))) (aNil))), rFmt (rE1 (lookF tSIGNS) (rVar 1)), rFmt (rCall 1 m (aCons (rE2 fIx (rVar 2) (rC (.int 1))) (aNil))), fun _ => some ")"])))))
def m_show_expression : Nat → List PyData → Option PyData
  | 0 => fun _ => none
  | n + 1 => runB 3 (b_show_expression (m_show_expression n))
theorem c_show_expression (T : Tp K w mg) : ∀ n, Cal P w K mg base (0 + n) "show_expression" 1 (m_show_expression n)
  | 0 => cal_zero (ps := ["expression"]) T.f_show_expression rfl (fun _ _ _ _ _ _ us hl => match us, hl with | [_], _ => rfl)
  | n + 1 => by
    have ih := c_show_expression T n
    exact cal_of (k := 0 + n) (ps := ["expression"]) (nN := 3) (b := b_show_expression (m_show_expression n)) T.f_show_expression sc_show_expression rfl rfl (fun _ _ _ _ _ _ us hl => match us, hl with | [_], _ => rfl) fun f Z =>
      pss1_cons (ps1_if (ptd_val (pd_isi Z ty_int (pd_var Z 0 (by decide +kernel)) T.n_isinstance T.n_int (by decide +kernel) (by decide +kernel) (by decide +kernel))) (pss1_one (ps1_ret (pd_ct Z (fun _ _ => call_str_int) oc_str T.n_str (by decide +kernel) (pad_cons (pd_var Z 0 (by decide +kernel)) (pad_nil)) (by decide +kernel)))) (pss1_nil)) (pss1_cons (ps1_asgF (pd_var Z 0 (by decide +kernel)) (pgf_st Z 1 2 (by decide +kernel) (by decide +kernel))) (pss1_cons (ps1_if (ptd_cmp (zEq Z) o2_eq (pd_var Z 1 (by decide +kernel)) (pd_str) (by rfl)) (pss1_one (ps1_ret (pd_ix (zIx Z) o2_ix (pd_var Z 2 (by decide +kernel)) (pd_int)))) (pss1_nil)) (pss1_cons (ps1_if (ptd_cmp (zEq Z) o2_eq (pd_var Z 1 (by decide +kernel)) (pd_str) (by rfl)) (pss1_one (ps1_ret (pd_bin (fun _ _ => op_addA) o2_addA (pd_str) (pd_ix (zIx Z) o2_ix (pd_var Z 2 (by decide +kernel)) (pd_int))))) (pss1_nil)) (pss1_one (ps1_ret (pd_joined (.cons (pfd_str) (.cons (pfd_fmt (pd_call Z ih (by omega) (pad_cons (pd_ix (zIx Z) o2_ix (pd_var Z 2 (by decide +kernel)) (pd_int)) (pad_nil)) (by decide +kernel))) (.cons (pfd_fmt (pd_tab Z T.t_SIGNS (pd_var Z 1 (by decide +kernel)) (by decide +kernel))) (.cons (pfd_fmt (pd_call Z ih (by omega) (pad_cons (pd_ix (zIx Z) o2_ix (pd_var Z 2 (by decide +kernel)) (pd_int)) (pad_nil)) (by decide +kernel))) (.cons (pfd_str) (.nil))))))))))))
abbrev N_is_index : List Str := ["thing", "many"]
theorem sc_is_index : FnScope N_is_index ["thing", "many"] (defScope s_is_index) := ⟨rfl, rfl, rfl, by decide +kernel, rfl, by decide +kernel, by decide +kernel⟩
def b_is_index : B1 := sRet (rAnd (rE1 (fIsi "int") (rVar 0)) (rAnd (rNot (rE1 (fIsi "bool") (rVar 0))) (rChain fLe fLt (rC (.int 0)) (rVar 0) (rVar 1))))
def m_is_index : List PyData → Option PyData := runB 2 b_is_index
theorem c_is_index (T : Tp K w mg) : Cal P w K mg base 1 "is_index" 2 m_is_index := cal_of (k := 0) (ps := ["thing", "many"]) (nN := 2) (b := b_is_index) T.f_is_index sc_is_index rfl rfl (fun _ _ _ _ _ _ us hl => match us, hl with | [_, _], _ => rfl) fun f Z =>
  pss1_one (ps1_ret (pd_and (pd_isi Z ty_int (pd_var Z 0 (by decide +kernel)) T.n_isinstance T.n_int (by decide +kernel) (by decide +kernel) (by decide +kernel)) (pd_and (pd_not (pd_isi Z ty_bool (pd_var Z 0 (by decide +kernel)) T.n_isinstance T.n_bool (by decide +kernel) (by decide +kernel) (by decide +kernel))) (pd_one (pd_chain (fun _ _ => op_le) (fun _ _ => op_lt) o2_le o2_lt (pd_int) (pd_var Z 0 (by decide +kernel)) (pd_var Z 1 (by decide +kernel)))))))
abbrev N_is_ends : List Str := ["program", "thing", "variables", "facts", "machine", "objects", "tasks"]
theorem sc_is_ends : FnScope N_is_ends ["program", "thing"] (defScope s_is_ends) := ⟨rfl, rfl, rfl, by decide +kernel, rfl, by decide +kernel, by decide +kernel⟩
def b_is_ends : B1 := sSeq (sAsg (gT [2, 3, 4, 5, 6]) (rVar 0)) (sRet (rAnd (rE2 fEq (rA fLen (aCons (rVar 1) (aNil))) (rC (.int 3))) (rAnd (rCall 2 m_is_index (aCons (rE2 fIx (rVar 1) (rC (.int 1))) (aCons (rA fLen (aCons (rVar 6) (aNil))) (aNil)))) (rCall 3 (fun ds => m_is_expression 6 (ds ++ [.int 4])) (aCons (rE2 fIx (rVar 1) (rC (.int 2))) (aCons (rVar 2) (aCons (rA mkTup (aNil)) (aNil))))))))
def m_is_ends : List PyData → Option PyData := runB 7 b_is_ends
theorem c_is_ends (T : Tp K w mg) : Cal P w K mg base 10 "is_ends" 2 m_is_ends := cal_of (k := 9) (ps := ["program", "thing"]) (nN := 7) (b := b_is_ends) T.f_is_ends sc_is_ends rfl rfl (fun _ _ _ _ _ _ us hl => match us, hl with | [_, _], _ => rfl) fun f Z =>
  pss1_cons (ps1_asg (pgd_tup Z (pgsd_cons Z 2 (by decide +kernel) (pgsd_cons Z 3 (by decide +kernel) (pgsd_cons Z 4 (by decide +kernel) (pgsd_cons Z 5 (by decide +kernel) (pgsd_cons Z 6 (by decide +kernel) (pgsd_nil))))))) (pd_var Z 0 (by decide +kernel))) (pss1_one (ps1_ret (pd_and (pd_cmp (zEq Z) o2_eq (pd_cb Z (zLen Z) oc_len T.n_len (by decide +kernel) (pad_cons (pd_var Z 1 (by decide +kernel)) (pad_nil)) (by decide +kernel)) (pd_int) (by rfl)) (pd_and (pd_call Z (c_is_index T) (by omega) (pad_cons (pd_ix (zIx Z) o2_ix (pd_var Z 1 (by decide +kernel)) (pd_int)) (pad_cons (pd_cb Z (zLen Z) oc_len T.n_len (by decide +kernel) (pad_cons (pd_var Z 6 (by decide +kernel)) (pad_nil)) (by decide +kernel)) (pad_nil))) (by decide +kernel)) (pd_one (pd_call1 Z (c_is_expression3 T 5) (by omega) (pad_cons (pd_ix (zIx Z) o2_ix (pd_var Z 1 (by decide +kernel)) (pd_int)) (pad_cons (pd_var Z 2 (by decide +kernel)) (pad_cons (pd_tup (pad_nil)) (pad_nil)))) (by decide +kernel)))))))
abbrev N_is_emits : List Str := ["program", "thing", "channels", "one"]
theorem sc_is_emits : FnScope N_is_emits ["program", "thing"] (defScope s_is_emits) := ⟨rfl, rfl, rfl, by decide +kernel, rfl, by decide +kernel, by decide +kernel⟩
def b_is_emits : B1 := sSeq (sAsg (gN 2) (rE2 fIx (rE2 fIx (rVar 0) (rC (.int 3))) (rC (.int 3)))) (sSeq (sIf (tOrD (tVal (rE2 fNe (rA fLen (aCons (rVar 1) (aNil))) (rC (.int 3)))) (tOrD (tNotD (tVal (rE1 (fIsi "str") (rE2 fIx (rVar 1) (rC (.int 1)))))) (tVal (rE2 (fIn true) (rE2 fIx (rVar 1) (rC (.int 1))) (rVar 2))))) (sRet (rC (.bool false))) (sNext)) (sRet (rAnd (rE1 (fIsi "tuple") (rE2 fIx (rVar 1) (rC (.int 2)))) (rA fAll (aCons (rLc (aTup (rE2 fIx (rVar 1) (rC (.int 2)))) (gN 3) (tTrue) (rCall 1 m_is_number (aCons (rVar 3) (aNil))) [3]) (aNil))))))
def m_is_emits : List PyData → Option PyData := runB 4 b_is_emits
theorem c_is_emits (T : Tp K w mg) : Cal P w K mg base 3 "is_emits" 2 m_is_emits := cal_of (k := 2) (ps := ["program", "thing"]) (nN := 4) (b := b_is_emits) T.f_is_emits sc_is_emits rfl rfl (fun _ _ _ _ _ _ us hl => match us, hl with | [_, _], _ => rfl) fun f Z =>
  pss1_cons (ps1_set Z 2 (pd_ix (zIx Z) o2_ix (pd_ix (zIx Z) o2_ix (pd_var Z 0 (by decide +kernel)) (pd_int)) (pd_int)) (by decide +kernel)) (pss1_cons (ps1_if (PWd.pt (pwd_or (ptd_cmp (zNe Z) o2_ne (pd_cb Z (zLen Z) oc_len T.n_len (by decide +kernel) (pad_cons (pd_var Z 1 (by decide +kernel)) (pad_nil)) (by decide +kernel)) (pd_int) (by rfl)) (pwd_or (ptd_not (ptd_val (pd_isi Z ty_str (pd_ix (zIx Z) o2_ix (pd_var Z 1 (by decide +kernel)) (pd_int)) T.n_isinstance T.n_str (by decide +kernel) (by decide +kernel) (by decide +kernel)))) (pwd_or1 (ptd_cmp (zNotIn Z) (o2_inA true) (pd_ix (zIx Z) o2_ix (pd_var Z 1 (by decide +kernel)) (pd_int)) (pd_var Z 2 (by decide +kernel)) (by rfl)))))) (pss1_one (ps1_ret (pd_bl))) (pss1_nil)) (pss1_one (ps1_ret (pd_and (pd_isi Z ty_tuple (pd_ix (zIx Z) o2_ix (pd_var Z 1 (by decide +kernel)) (pd_int)) T.n_isinstance T.n_tuple (by decide +kernel) (by decide +kernel) (by decide +kernel)) (pd_one (pd_cb Z (zAll Z) oc_all T.n_all (by decide +kernel) (pad_cons (pd_lc Z [("one", 3)] (tgAt_n 3) (pid_tup Z (pd_ix (zIx Z) o2_ix (pd_var Z 1 (by decide +kernel)) (pd_int))) (pgd_name (Z.blk _) 3 (by decide +kernel)) (ptsd_nil) (pd_call (Z.blk _) (c_is_number T) (by omega) (pad_cons (pd_var (Z.blk _) 3 (by decide +kernel)) (pad_nil)) (by decide +kernel)) (by decide +kernel) (by decide +kernel)) (pad_nil)) (by decide +kernel)))))))
abbrev N_is_within : List Str := ["program", "thing", "levels", "word", "part"]
theorem sc_is_within : FnScope N_is_within ["program", "thing", "levels"] (defScope s_is_within) := ⟨rfl, rfl, rfl, by decide +kernel, rfl, by decide +kernel, by decide +kernel⟩
def b_is_within (m : List PyData → Option PyData) : B1 := sSeq (sIf (tOrD (tNotD (tVal (rE1 (fIsi "tuple") (rVar 1)))) (tOrD (tVal (rE2 fEq (rA fLen (aCons (rVar 1) (aNil))) (rC (.int 0)))) (tNotD (tVal (rE1 (fIsi "str") (rE2 fIx (rVar 1) (rC (.int 0)))))))) (sRet (rC (.bool false))) (sNext)) (sSeq (sAsg (gN 3) (rE2 fIx (rVar 1) (rC (.int 0)))) (sSeq (sIf (tVal (rE2 fEq (rVar 3) (rC (.str "ends")))) (sRet (rCall 2 m_is_ends (aCons (rVar 0) (aCons (rVar 1) (aNil))))) (sNext)) (sSeq (sIf (tVal (rE2 fEq (rVar 3) (rC (.str "emits")))) (sRet (rCall 2 m_is_emits (aCons (rVar 0) (aCons (rVar 1) (aNil))))) (sNext)) (sSeq (sIf (tVal (rE2 fEq (rVar 3) (rC (.str "all")))) (sSeq (sIf (tOrD (tVal (rE2 fNe (rA fLen (aCons (rVar 1) (aNil))) (rC (.int 2)))) (tOrD (tVal (rE2 fEq (rVar 2) (rC (.int 0)))) (tNotD (tVal (rE1 (fIsi "tuple") (rE2 fIx (rVar 1) (rC (.int 1)))))))) (sRet (rC (.bool false))) (sNext)) (sRet (rA fAll (aCons (rLc (aTup (rE2 fIx (rVar 1) (rC (.int 1)))) (gN 4) (tTrue) (rCall 3 m (aCons (rVar 0) (aCons (rVar 4) (aCons (rE2 fSub (rVar 2) (rC (.int 1))) (aNil))))) [4]) (aNil))))) (sNext)) (sRet (rAnd (rE2 (fIn false) (rVar 3) (rC (.tuple [(.str "unblocked"), (.str "faultless")]))) (rE2 fEq (rA fLen (aCons (rVar 1) (aNil))) (rC (.int 1)))))))))
def m_is_within : Nat → List PyData → Option PyData
  | 0 => fun _ => none
  | n + 1 => runB 5 (b_is_within (m_is_within n))
theorem c_is_within (T : Tp K w mg) : ∀ n, Cal P w K mg base (10 + n) "is_within" 3 (m_is_within n)
  | 0 => cal_zero (ps := ["program", "thing", "levels"]) T.f_is_within rfl (fun _ _ _ _ _ _ us hl => match us, hl with | [_, _, _], _ => rfl)
  | n + 1 => by
    have ih := c_is_within T n
    exact cal_of (k := 10 + n) (ps := ["program", "thing", "levels"]) (nN := 5) (b := b_is_within (m_is_within n)) T.f_is_within sc_is_within rfl rfl (fun _ _ _ _ _ _ us hl => match us, hl with | [_, _, _], _ => rfl) fun f Z =>
      pss1_cons (ps1_if (PWd.pt (pwd_or (ptd_not (ptd_val (pd_isi Z ty_tuple (pd_var Z 1 (by decide +kernel)) T.n_isinstance T.n_tuple (by decide +kernel) (by decide +kernel) (by decide +kernel)))) (pwd_or (ptd_cmp (zEq Z) o2_eq (pd_cb Z (zLen Z) oc_len T.n_len (by decide +kernel) (pad_cons (pd_var Z 1 (by decide +kernel)) (pad_nil)) (by decide +kernel)) (pd_int) (by rfl)) (pwd_or1 (ptd_not (ptd_val (pd_isi Z ty_str (pd_ix (zIx Z) o2_ix (pd_var Z 1 (by decide +kernel)) (pd_int)) T.n_isinstance T.n_str (by decide +kernel) (by decide +kernel) (by decide +kernel)))))))) (pss1_one (ps1_ret (pd_bl))) (pss1_nil)) (pss1_cons (ps1_set Z 3 (pd_ix (zIx Z) o2_ix (pd_var Z 1 (by decide +kernel)) (pd_int)) (by decide +kernel)) (pss1_cons (ps1_if (ptd_cmp (zEq Z) o2_eq (pd_var Z 3 (by decide +kernel)) (pd_str) (by rfl)) (pss1_one (ps1_ret (pd_call Z (c_is_ends T) (by omega) (pad_cons (pd_var Z 0 (by decide +kernel)) (pad_cons (pd_var Z 1 (by decide +kernel)) (pad_nil))) (by decide +kernel)))) (pss1_nil)) (pss1_cons (ps1_if (ptd_cmp (zEq Z) o2_eq (pd_var Z 3 (by decide +kernel)) (pd_str) (by rfl)) (pss1_one (ps1_ret (pd_call Z (c_is_emits T) (by omega) (pad_cons (pd_var Z 0 (by decide +kernel)) (pad_cons (pd_var Z 1 (by decide +kernel)) (pad_nil))) (by decide +kernel)))) (pss1_nil)) (pss1_cons (ps1_if (ptd_cmp (zEq Z) o2_eq (pd_var Z 3 (by decide +kernel)) (pd_str) (by rfl)) (pss1_cons (ps1_if (PWd.pt (pwd_or (ptd_cmp (zNe Z) o2_ne (pd_cb Z (zLen Z) oc_len T.n_len (by decide +kernel) (pad_cons (pd_var Z 1 (by decide +kernel)) (pad_nil)) (by decide +kernel)) (pd_int) (by rfl)) (pwd_or (ptd_cmp (zEq Z) o2_eq (pd_var Z 2 (by decide +kernel)) (pd_int) (by rfl)) (pwd_or1 (ptd_not (ptd_val (pd_isi Z ty_tuple (pd_ix (zIx Z) o2_ix (pd_var Z 1 (by decide +kernel)) (pd_int)) T.n_isinstance T.n_tuple (by decide +kernel) (by decide +kernel) (by decide +kernel)))))))) (pss1_one (ps1_ret (pd_bl))) (pss1_nil)) (pss1_one (ps1_ret (pd_cb Z (zAll Z) oc_all T.n_all (by decide +kernel) (pad_cons (pd_lc Z [("part", 4)] (tgAt_n 4) (pid_tup Z (pd_ix (zIx Z) o2_ix (pd_var Z 1 (by decide +kernel)) (pd_int))) (pgd_name (Z.blk _) 4 (by decide +kernel)) (ptsd_nil) (pd_call (Z.blk _) ih (by omega) (pad_cons (pd_var (Z.blk _) 0 (by decide +kernel)) (pad_cons (pd_var (Z.blk _) 4 (by decide +kernel)) (pad_cons (pd_bin (fun _ _ => op_sub) o2_sub (pd_var (Z.blk _) 2 (by decide +kernel)) (pd_int)) (pad_nil)))) (by decide +kernel)) (by decide +kernel) (by decide +kernel)) (pad_nil)) (by decide +kernel))))) (pss1_nil)) (pss1_one (ps1_ret (pd_and (pd_cmp (zIn Z) (o2_inA false) (pd_var Z 3 (by decide +kernel)) (pd_gd Z T.g_ALONE (by decide +kernel)) (by rfl)) (pd_one (pd_cmp (zEq Z) o2_eq (pd_cb Z (zLen Z) oc_len T.n_len (by decide +kernel) (pad_cons (pd_var Z 1 (by decide +kernel)) (pad_nil)) (by decide +kernel)) (pd_int) (by rfl))))))))))
abbrev N_is_requirement : List Str := ["program", "thing"]
theorem sc_is_requirement : FnScope N_is_requirement ["program", "thing"] (defScope s_is_requirement) := ⟨rfl, rfl, rfl, by decide +kernel, rfl, by decide +kernel, by decide +kernel⟩
def b_is_requirement : B1 := sRet (rCall 3 (m_is_within 4) (aCons (rVar 0) (aCons (rVar 1) (aCons (rC (.int 2)) (aNil)))))
def m_is_requirement : List PyData → Option PyData := runB 2 b_is_requirement
theorem c_is_requirement (T : Tp K w mg) : Cal P w K mg base 15 "is_requirement" 2 m_is_requirement := cal_of (k := 14) (ps := ["program", "thing"]) (nN := 2) (b := b_is_requirement) T.f_is_requirement sc_is_requirement rfl rfl (fun _ _ _ _ _ _ us hl => match us, hl with | [_, _], _ => rfl) fun f Z =>
  pss1_one (ps1_ret (pd_call Z (c_is_within T 4) (by omega) (pad_cons (pd_var Z 0 (by decide +kernel)) (pad_cons (pd_var Z 1 (by decide +kernel)) (pad_cons (pd_gd Z T.g_LEVELS (by decide +kernel)) (pad_nil)))) (by decide +kernel)))
abbrev N_is_sight : List Str := ["program", "thing"]
theorem sc_is_sight : FnScope N_is_sight ["program", "thing"] (defScope s_is_sight) := ⟨rfl, rfl, rfl, by decide +kernel, rfl, by decide +kernel, by decide +kernel⟩
def b_is_sight : B1 := sSeq (sIf (tOrD (tNotD (tVal (rE1 (fIsi "tuple") (rVar 1)))) (tOrD (tVal (rE2 fLt (rA fLen (aCons (rVar 1) (aNil))) (rC (.int 2)))) (tNotD (tVal (rE1 (fIsi "str") (rE2 fIx (rVar 1) (rC (.int 0)))))))) (sRet (rC (.bool false))) (sNext)) (sSeq (sIf (tVal (rE2 fEq (rE2 fIx (rVar 1) (rC (.int 0))) (rC (.str "emits")))) (sRet (rAnd (rE2 fEq (rA fLen (aCons (rVar 1) (aNil))) (rC (.int 2))) (rAnd (rE1 (fIsi "str") (rE2 fIx (rVar 1) (rC (.int 1)))) (rE2 (fIn false) (rE2 fIx (rVar 1) (rC (.int 1))) (rE2 fIx (rE2 fIx (rVar 0) (rC (.int 3))) (rC (.int 3))))))) (sNext)) (sSeq (sIf (tVal (rE2 fEq (rE2 fIx (rVar 1) (rC (.int 0))) (rC (.str "later")))) (sRet (rAnd (rE2 fEq (rA fLen (aCons (rVar 1) (aNil))) (rC (.int 3))) (rAnd (rCall 1 m_is_event_name (aCons (rE2 fIx (rVar 1) (rC (.int 1))) (aNil))) (rCall 1 m_is_event_name (aCons (rE2 fIx (rVar 1) (rC (.int 2))) (aNil)))))) (sNext)) (sRet (rAnd (rE2 (fIn false) (rE2 fIx (rVar 1) (rC (.int 0))) (rA mkTup (aCons (rC (.str "time")) (aCons (rC (.str "comes")) (aNil))))) (rAnd (rE2 fEq (rA fLen (aCons (rVar 1) (aNil))) (rC (.int 2))) (rCall 1 m_is_event_name (aCons (rE2 fIx (rVar 1) (rC (.int 1))) (aNil))))))))
def m_is_sight : List PyData → Option PyData := runB 2 b_is_sight
theorem c_is_sight (T : Tp K w mg) : Cal P w K mg base 3 "is_sight" 2 m_is_sight := cal_of (k := 2) (ps := ["program", "thing"]) (nN := 2) (b := b_is_sight) T.f_is_sight sc_is_sight rfl rfl (fun _ _ _ _ _ _ us hl => match us, hl with | [_, _], _ => rfl) fun f Z =>
  pss1_cons (ps1_if (PWd.pt (pwd_or (ptd_not (ptd_val (pd_isi Z ty_tuple (pd_var Z 1 (by decide +kernel)) T.n_isinstance T.n_tuple (by decide +kernel) (by decide +kernel) (by decide +kernel)))) (pwd_or (ptd_cmp (fun _ _ => op_lt) o2_lt (pd_cb Z (zLen Z) oc_len T.n_len (by decide +kernel) (pad_cons (pd_var Z 1 (by decide +kernel)) (pad_nil)) (by decide +kernel)) (pd_int) (by rfl)) (pwd_or1 (ptd_not (ptd_val (pd_isi Z ty_str (pd_ix (zIx Z) o2_ix (pd_var Z 1 (by decide +kernel)) (pd_int)) T.n_isinstance T.n_str (by decide +kernel) (by decide +kernel) (by decide +kernel)))))))) (pss1_one (ps1_ret (pd_bl))) (pss1_nil)) (pss1_cons (ps1_if (ptd_cmp (zEq Z) o2_eq (pd_ix (zIx Z) o2_ix (pd_var Z 1 (by decide +kernel)) (pd_int)) (pd_gd Z T.g_EMITS (by decide +kernel)) (by rfl)) (pss1_one (ps1_ret (pd_and (pd_cmp (zEq Z) o2_eq (pd_cb Z (zLen Z) oc_len T.n_len (by decide +kernel) (pad_cons (pd_var Z 1 (by decide +kernel)) (pad_nil)) (by decide +kernel)) (pd_int) (by rfl)) (pd_and (pd_isi Z ty_str (pd_ix (zIx Z) o2_ix (pd_var Z 1 (by decide +kernel)) (pd_int)) T.n_isinstance T.n_str (by decide +kernel) (by decide +kernel) (by decide +kernel)) (pd_one (pd_cmp (zIn Z) (o2_inA false) (pd_ix (zIx Z) o2_ix (pd_var Z 1 (by decide +kernel)) (pd_int)) (pd_ix (zIx Z) o2_ix (pd_ix (zIx Z) o2_ix (pd_var Z 0 (by decide +kernel)) (pd_int)) (pd_int)) (by rfl))))))) (pss1_nil)) (pss1_cons (ps1_if (ptd_cmp (zEq Z) o2_eq (pd_ix (zIx Z) o2_ix (pd_var Z 1 (by decide +kernel)) (pd_int)) (pd_gd Z T.g_LATER (by decide +kernel)) (by rfl)) (pss1_one (ps1_ret (pd_and (pd_cmp (zEq Z) o2_eq (pd_cb Z (zLen Z) oc_len T.n_len (by decide +kernel) (pad_cons (pd_var Z 1 (by decide +kernel)) (pad_nil)) (by decide +kernel)) (pd_int) (by rfl)) (pd_and (pd_call Z (c_is_event_name T) (by omega) (pad_cons (pd_ix (zIx Z) o2_ix (pd_var Z 1 (by decide +kernel)) (pd_int)) (pad_nil)) (by decide +kernel)) (pd_one (pd_call Z (c_is_event_name T) (by omega) (pad_cons (pd_ix (zIx Z) o2_ix (pd_var Z 1 (by decide +kernel)) (pd_int)) (pad_nil)) (by decide +kernel))))))) (pss1_nil)) (pss1_one (ps1_ret (pd_and (pd_cmp (zIn Z) (o2_inA false) (pd_ix (zIx Z) o2_ix (pd_var Z 1 (by decide +kernel)) (pd_int)) (pd_tup (pad_cons (pd_gd Z T.g_TIME (by decide +kernel)) (pad_cons (pd_gd Z T.g_COMES (by decide +kernel)) (pad_nil)))) (by rfl)) (pd_and (pd_cmp (zEq Z) o2_eq (pd_cb Z (zLen Z) oc_len T.n_len (by decide +kernel) (pad_cons (pd_var Z 1 (by decide +kernel)) (pad_nil)) (by decide +kernel)) (pd_int) (by rfl)) (pd_one (pd_call Z (c_is_event_name T) (by omega) (pad_cons (pd_ix (zIx Z) o2_ix (pd_var Z 1 (by decide +kernel)) (pd_int)) (pad_nil)) (by decide +kernel)))))))))
abbrev N_must : List Str := ["condition"]
theorem sc_must : FnScope N_must ["condition"] (defScope s_must) := ⟨rfl, rfl, rfl, by decide +kernel, rfl, by decide +kernel, by decide +kernel⟩
def b_must : B1 := sIf (tNotD (tVal (rVar 0))) (sNever) (sNext)
def m_must : List PyData → Option PyData := runB 1 b_must
theorem c_must (T : Tp K w mg) : Cal P w K mg base 1 "must" 1 m_must := cal_of (k := 0) (ps := ["condition"]) (nN := 1) (b := b_must) T.f_must sc_must rfl rfl (fun _ _ _ _ _ _ us hl => match us, hl with | [_], _ => rfl) fun f Z =>
  pss1_one (ps1_if (ptd_not (ptd_val (pd_var Z 0 (by decide +kernel)))) (pss1_one (ps1_never)) (pss1_nil))
abbrev N_whole_in : List Str := ["word", "digits", "sign"]
theorem sc_whole_in : FnScope N_whole_in ["word"] (defScope s_whole_in) := ⟨rfl, rfl, rfl, by decide +kernel, rfl, by decide +kernel, by decide +kernel⟩
def b_whole_in : B1 := sSeq (sAsg (gN 1) (rIf (tVal (rE2 fEq (rCut (rVar 0) (oNone) (oSome (rC (.int 1)))) (rC (.str "-")))) (rCut (rVar 0) (oSome (rC (.int 1))) (oNone)) (rVar 0))) (sSeq (sIf (tOrD (tVal (rE2 fEq (rVar 1) (rC (.str "")))) (tOrD (tVal (rE2 fGt (rA fLen (aCons (rVar 1) (aNil))) (rC (.int 40)))) (tNotD (tVal (rA fAll (aCons (rLc (aStr (rVar 1)) (gN 2) (tTrue) (rE2 (fIn false) (rVar 2) (rC (.str "0123456789"))) [2]) (aNil))))))) (sRet (rC .none)) (sNext)) (sSeq (sIf (tAndD (tVal (rE2 fEq (rE2 fIx (rVar 1) (rC (.int 0))) (rC (.str "0")))) (tVal (rE2 fNe (rVar 0) (rC (.str "0"))))) (sRet (rC .none)) (sNext)) (sRet (rA fInt (aCons (rVar 0) (aNil))))))
def m_whole_in : List PyData → Option PyData := runB 3 b_whole_in
theorem c_whole_in (T : Tp K w mg) : Cal P w K mg base 1 "whole_in" 1 m_whole_in := cal_of (k := 0) (ps := ["word"]) (nN := 3) (b := b_whole_in) T.f_whole_in sc_whole_in rfl rfl (fun _ _ _ _ _ _ us hl => match us, hl with | [_], _ => rfl) fun f Z =>
  pss1_cons (ps1_set Z 1 (pd_if (ptd_cmp (zEq Z) o2_eq (pd_slice Z (pd_var Z 0 (by decide +kernel)) (pod_none) (pod_some (pd_int))) (pd_str) (by rfl)) (pd_slice Z (pd_var Z 0 (by decide +kernel)) (pod_some (pd_int)) (pod_none)) (pd_var Z 0 (by decide +kernel))) (by decide +kernel)) (pss1_cons (ps1_if (PWd.pt (pwd_or (ptd_cmp (zEq Z) o2_eq (pd_var Z 1 (by decide +kernel)) (pd_str) (by rfl)) (pwd_or (ptd_cmp (fun _ _ => op_gt) o2_gt (pd_cb Z (zLen Z) oc_len T.n_len (by decide +kernel) (pad_cons (pd_var Z 1 (by decide +kernel)) (pad_nil)) (by decide +kernel)) (pd_gd Z T.g_MOST_FIGURES (by decide +kernel)) (by rfl)) (pwd_or1 (ptd_not (ptd_val (pd_cb Z (zAll Z) oc_all T.n_all (by decide +kernel) (pad_cons (pd_lc Z [("sign", 2)] (tgAt_n 2) (pid_str (pd_var Z 1 (by decide +kernel))) (pgd_name (Z.blk _) 2 (by decide +kernel)) (ptsd_nil) (pd_cmp (zIn (Z.blk _)) (o2_inA false) (pd_var (Z.blk _) 2 (by decide +kernel)) (pd_str) (by rfl)) (by decide +kernel) (by decide +kernel)) (pad_nil)) (by decide +kernel)))))))) (pss1_one (ps1_ret (pd_non))) (pss1_nil)) (pss1_cons (ps1_if (PWd.pt (pwd_and (ptd_cmp (zEq Z) o2_eq (pd_ix (zIx Z) o2_ix (pd_var Z 1 (by decide +kernel)) (pd_int)) (pd_str) (by rfl)) (pwd_and1 (ptd_cmp (zNe Z) o2_ne (pd_var Z 0 (by decide +kernel)) (pd_str) (by rfl))))) (pss1_one (ps1_ret (pd_non))) (pss1_nil)) (pss1_one (ps1_ret (pd_ct Z (fun _ _ => call_intA) oc_int T.n_int (by decide +kernel) (pad_cons (pd_var Z 0 (by decide +kernel)) (pad_nil)) (by decide +kernel))))))
abbrev N_number_in : List Str := ["word", "number", "top", "stroke", "bottom"]
theorem sc_number_in : FnScope N_number_in ["word"] (defScope s_number_in) := ⟨rfl, rfl, rfl, by decide +kernel, rfl, by decide +kernel, by decide +kernel⟩
def b_number_in : B1 := sSeq (sAsg (gT [2, 3, 4]) (rE2 fPart (rVar 0) (rC (.str "/")))) (sSeq (sAsg (gN 1) (rCall 1 m_whole_in (aCons (rVar 2) (aNil)))) (sSeq (sIf (tVal (rE2 fNe (rVar 3) (rC (.str "")))) (sAsg (gN 1) (rA mkTup (aCons (rVar 1) (aCons (rCall 1 m_whole_in (aCons (rVar 4) (aNil))) (aNil))))) (sNext)) (sSeq (sDrop (rCall 1 m_must (aCons (rAnd (rCall 1 m_is_number (aCons (rVar 1) (aNil))) (rE2 fEq (rCall 1 m_show_number (aCons (rVar 1) (aNil))) (rVar 0))) (aNil)))) (sRet (rVar 1)))))
def m_number_in : List PyData → Option PyData := runB 5 b_number_in
theorem c_number_in (T : Tp K w mg) : Cal P w K mg base 3 "number_in" 1 m_number_in := cal_of (k := 2) (ps := ["word"]) (nN := 5) (b := b_number_in) T.f_number_in sc_number_in rfl rfl (fun _ _ _ _ _ _ us hl => match us, hl with | [_], _ => rfl) fun f Z =>
  pss1_cons (ps1_asg (pgd_tup Z (pgsd_cons Z 2 (by decide +kernel) (pgsd_cons Z 3 (by decide +kernel) (pgsd_cons Z 4 (by decide +kernel) (pgsd_nil))))) (pd_partition (pd_var Z 0 (by decide +kernel)) (pd_str))) (pss1_cons (ps1_set Z 1 (pd_call Z (c_whole_in T) (by omega) (pad_cons (pd_var Z 2 (by decide +kernel)) (pad_nil)) (by decide +kernel)) (by decide +kernel)) (pss1_cons (ps1_if (ptd_cmp (zNe Z) o2_ne (pd_var Z 3 (by decide +kernel)) (pd_str) (by rfl)) (pss1_one (ps1_set Z 1 (pd_tup (pad_cons (pd_var Z 1 (by decide +kernel)) (pad_cons (pd_call Z (c_whole_in T) (by omega) (pad_cons (pd_var Z 4 (by decide +kernel)) (pad_nil)) (by decide +kernel)) (pad_nil)))) (by decide +kernel))) (pss1_nil)) (pss1_cons (ps1_expr (pd_call Z (c_must T) (by omega) (pad_cons (pd_and (pd_call Z (c_is_number T) (by omega) (pad_cons (pd_var Z 1 (by decide +kernel)) (pad_nil)) (by decide +kernel)) (pd_one (pd_cmp (zEq Z) o2_eq (pd_call Z (c_show_number T) (by omega) (pad_cons (pd_var Z 1 (by decide +kernel)) (pad_nil)) (by decide +kernel)) (pd_var Z 0 (by decide +kernel)) (by rfl)))) (pad_nil)) (by decide +kernel))) (pss1_one (ps1_ret (pd_var Z 1 (by decide +kernel)))))))
abbrev N_name_in : List Str := ["word", "name"]
theorem sc_name_in : FnScope N_name_in ["word"] (defScope s_name_in) := ⟨rfl, rfl, rfl, by decide +kernel, rfl, by decide +kernel, by decide +kernel⟩
def b_name_in : B1 := sSeq (sAsg (gN 1) (rCall 1 m_read_name (aCons (rVar 0) (aNil)))) (sSeq (sDrop (rCall 1 m_must (aCons (rE2 fNotN (rVar 1) (rC .none)) (aNil)))) (sRet (rVar 1)))
def m_name_in : List PyData → Option PyData := runB 2 b_name_in
theorem c_name_in (T : Tp K w mg) : Cal P w K mg base 4 "name_in" 1 m_name_in := cal_of (k := 3) (ps := ["word"]) (nN := 2) (b := b_name_in) T.f_name_in sc_name_in rfl rfl (fun _ _ _ _ _ _ us hl => match us, hl with | [_], _ => rfl) fun f Z =>
  pss1_cons (ps1_set Z 1 (pd_call Z (c_read_name T) (by omega) (pad_cons (pd_var Z 0 (by decide +kernel)) (pad_nil)) (by decide +kernel)) (by decide +kernel)) (pss1_cons (ps1_expr (pd_call Z (c_must T) (by omega) (pad_cons (pd_cmp (fun _ _ => op_notN) o2_notN (pd_var Z 1 (by decide +kernel)) (pd_non) (by rfl)) (pad_nil)) (by decide +kernel))) (pss1_one (ps1_ret (pd_var Z 1 (by decide +kernel)))))
abbrev N_show_part : List Str := ["part", "told", "number"]
theorem sc_show_part : FnScope N_show_part ["part"] (defScope s_show_part) := ⟨rfl, rfl, rfl, by decide +kernel, rfl, by decide +kernel, by decide +kernel⟩
def b_show_part : B1 := sSeq (sIf (tVal (rE2 fEq (rE2 fIx (rVar 0) (rC (.int 0))) (rC (.str "ends")))) (sRet (rE2 fJoin (rC (.str " ")) (rA mkLst (aCons (rC (.str "ends")) (aCons (rA fStr (aCons (rE2 fIx (rVar 0) (rC (.int 1))) (aNil))) (aCons (rCall 1 (m_show_expression 6) (aCons (rE2 fIx (rVar 0) (rC (.int 2))) (aNil))) (aNil))))))) (sNext)) (sSeq (sIf (tVal (rE2 fEq (rE2 fIx (rVar 0) (rC (.int 0))) (rC (.str "emits")))) (sSeq (sAsg (gN 1) (rIf (tVal (rE2 fNe (rE2 fIx (rVar 0) (rC (.int 2))) (rA mkTup (aNil)))) (rA mkLst (aCons (rE2 fJoin (rC (.str ",")) (rLc (aTup (rE2 fIx (rVar 0) (rC (.int 2)))) (gN 2) (tTrue) (rCall 1 m_show_number (aCons (rVar 2) (aNil))) [2])) (aNil))) (rA mkLst (aNil)))) (sRet (rE2 fJoin (rC (.str " ")) (rA mkLst (aCons (rC (.str "emits")) (aCons (rE2 fIx (rVar 0) (rC (.int 1))) (aStar (rVar 1) (aNil)))))))) (sNext)) (sRet (rE2 fIx (rVar 0) (rC (.int 0)))))
def m_show_part : List PyData → Option PyData := runB 3 b_show_part
theorem c_show_part (T : Tp K w mg) : Cal P w K mg base 7 "show_part" 1 m_show_part := cal_of (k := 6) (ps := ["part"]) (nN := 3) (b := b_show_part) T.f_show_part sc_show_part rfl rfl (fun _ _ _ _ _ _ us hl => match us, hl with | [_], _ => rfl) fun f Z =>
  pss1_cons (ps1_if (ptd_cmp (zEq Z) o2_eq (pd_ix (zIx Z) o2_ix (pd_var Z 0 (by decide +kernel)) (pd_int)) (pd_str) (by rfl)) (pss1_one (ps1_ret (pd_join (pd_gd Z T.g_SPACE (by decide +kernel)) (pd_lst (pad_cons (pd_str) (pad_cons (pd_ct Z (fun _ _ => call_str_int) oc_str T.n_str (by decide +kernel) (pad_cons (pd_ix (zIx Z) o2_ix (pd_var Z 0 (by decide +kernel)) (pd_int)) (pad_nil)) (by decide +kernel)) (pad_cons (pd_call Z (c_show_expression T 6) (by omega) (pad_cons (pd_ix (zIx Z) o2_ix (pd_var Z 0 (by decide +kernel)) (pd_int)) (pad_nil)) (by decide +kernel)) (pad_nil))))) Z))) (pss1_nil)) (pss1_cons (ps1_if (ptd_cmp (zEq Z) o2_eq (pd_ix (zIx Z) o2_ix (pd_var Z 0 (by decide +kernel)) (pd_int)) (pd_str) (by rfl)) (pss1_cons (ps1_set Z 1 (pd_if (ptd_cmp (zNe Z) o2_ne (pd_ix (zIx Z) o2_ix (pd_var Z 0 (by decide +kernel)) (pd_int)) (pd_tup (pad_nil)) (by rfl)) (pd_lst (pad_cons (pd_join (pd_gd Z T.g_COMMA (by decide +kernel)) (pd_lc Z [("number", 2)] (tgAt_n 2) (pid_tup Z (pd_ix (zIx Z) o2_ix (pd_var Z 0 (by decide +kernel)) (pd_int))) (pgd_name (Z.blk _) 2 (by decide +kernel)) (ptsd_nil) (pd_call (Z.blk _) (c_show_number T) (by omega) (pad_cons (pd_var (Z.blk _) 2 (by decide +kernel)) (pad_nil)) (by decide +kernel)) (by decide +kernel) (by decide +kernel)) Z) (pad_nil))) (pd_lst (pad_nil))) (by decide +kernel)) (pss1_one (ps1_ret (pd_join (pd_gd Z T.g_SPACE (by decide +kernel)) (pd_lst (pad_cons (pd_str) (pad_cons (pd_ix (zIx Z) o2_ix (pd_var Z 0 (by decide +kernel)) (pd_int)) (pad_star Z (pd_var Z 1 (by decide +kernel)) (pad_nil))))) Z)))) (pss1_nil)) (pss1_one (ps1_ret (pd_ix (zIx Z) o2_ix (pd_var Z 0 (by decide +kernel)) (pd_int)))))
abbrev N_parts_of : List Str := ["requirement", "waiting", "found", "one"]
theorem sc_parts_of : FnScope N_parts_of ["requirement"] (defScope s_parts_of) := ⟨rfl, rfl, rfl, by decide +kernel, rfl, by decide +kernel, by decide +kernel⟩
def b_parts_of : B1 := sSeq (sOw2 1 2 (aCons (rVar 0) (aNil)) (aNil)) (sSeq (whD (tNeNil 1) (sSeq (sPop 1 3) (sIf (tVal (rE2 fEq (rE2 fIx (rVar 3) (rC (.int 0))) (rC (.str "all")))) (sExt 1 (rE1 fRev (rA fList (aCons (rE2 fIx (rVar 3) (rC (.int 1))) (aNil))))) (sApp 2 (rVar 3)))) 60) (sRetOw 2))
def m_parts_of : List PyData → Option PyData := runB 4 b_parts_of
theorem c_parts_of (T : Tp K w mg) : Cal P w K mg base 1 "parts_of" 1 m_parts_of := cal_of (k := 0) (ps := ["requirement"]) (nN := 4) (b := b_parts_of) T.f_parts_of sc_parts_of rfl rfl (fun _ _ _ _ _ _ us hl => match us, hl with | [_], _ => rfl) fun f Z =>
  pss1_cons (ps1_ow2 Z 1 2 rfl rfl (by decide) (by decide +kernel) (by decide +kernel) (pad_cons (pd_var Z 0 (by decide +kernel)) (pad_nil)) (pad_nil) (fun env he => swp2 he)) (pss1_cons (ps1_while Z 60 (ptd_neNil Z 1 (by decide +kernel)) (pss1_cons (ps1_pop Z 1 3 (by decide +kernel) (by decide +kernel)) (pss1_one (ps1_if (ptd_cmp (zEq Z) o2_eq (pd_ix (zIx Z) o2_ix (pd_var Z 3 (by decide +kernel)) (pd_int)) (pd_str) (by rfl)) (pss1_one (ps1_extend Z 1 (by decide +kernel) (pd_rev Z (pd_ct Z (zList Z) oc_list T.n_list (by decide +kernel) (pad_cons (pd_ix (zIx Z) o2_ix (pd_var Z 3 (by decide +kernel)) (pd_int)) (pad_nil)) (by decide +kernel))))) (pss1_one (ps1_append Z 2 (by decide +kernel) (pd_var Z 3 (by decide +kernel)))))))) (pss1_one (ps1_retOw Z 2 (by decide +kernel))))
abbrev N_show_requirement : List Str := ["requirement", "told", "part"]
theorem sc_show_requirement : FnScope N_show_requirement ["requirement"] (defScope s_show_requirement) := ⟨rfl, rfl, rfl, by decide +kernel, rfl, by decide +kernel, by decide +kernel⟩
def b_show_requirement : B1 := sSeq (sAsg (gN 1) (rLc (aList (rCall 1 m_parts_of (aCons (rVar 0) (aNil)))) (gN 2) (tTrue) (rCall 1 m_show_part (aCons (rVar 2) (aNil))) [2])) (sRet (rIf (tVal (rE2 fNe (rVar 1) (rA mkLst (aNil)))) (rE2 fJoin (rC (.str "; ")) (rVar 1)) (rC (.str "all"))))
def m_show_requirement : List PyData → Option PyData := runB 3 b_show_requirement
theorem ck_show_requirement (T : Tp K w mg) : CalP P w K mg base 8 "show_requirement" ["requirement"] m_show_requirement := calP_of (k := 7) (ps := ["requirement"]) (nN := 3) (b := b_show_requirement) T.f_show_requirement sc_show_requirement rfl (fun _ _ _ _ _ _ us hl => match us, hl with | [_], _ => rfl) fun f Z =>
  pss1_cons (ps1_setLc Z 1 [("part", 2)] (tgAt_n 2) (pid_list Z (pd_call Z (c_parts_of T) (by omega) (pad_cons (pd_var Z 0 (by decide +kernel)) (pad_nil)) (by decide +kernel))) (pgd_name (Z.blk _) 2 (by decide +kernel)) (ptsd_nil) (pd_call (Z.blk _) (c_show_part T) (by omega) (pad_cons (pd_var (Z.blk _) 2 (by decide +kernel)) (pad_nil)) (by decide +kernel)) (by decide +kernel) (by decide +kernel) rfl (by rfl) (by rfl) (by rfl) (by decide +kernel)) (pss1_one (ps1_ret (pd_if (ptd_cmp (zNe Z) o2_ne (pd_var Z 1 (by decide +kernel)) (pd_lst (pad_nil)) (by rfl)) (pd_join (pd_gd Z T.g_AND (by decide +kernel)) (pd_var Z 1 (by decide +kernel)) Z) (pd_str))))
theorem c_show_requirement (T : Tp K w mg) : Cal P w K mg base 8 "show_requirement" 1 m_show_requirement := (ck_show_requirement T).cal rfl
abbrev N_show_sight : List Str := ["sight", "name"]
theorem sc_show_sight : FnScope N_show_sight ["sight"] (defScope s_show_sight) := ⟨rfl, rfl, rfl, by decide +kernel, rfl, by decide +kernel, by decide +kernel⟩
def b_show_sight : B1 := sSeq (sIf (tVal (rE2 fEq (rE2 fIx (rVar 0) (rC (.int 0))) (rC (.str "emits")))) (sRet (rE2 fJoin (rC (.str " ")) (rA fList (aCons (rVar 0) (aNil))))) (sNext)) (sRet (rE2 fJoin (rC (.str " ")) (rA mkLst (aCons (rE2 fIx (rVar 0) (rC (.int 0))) (aStar (rLc (aTup (rCut (rVar 0) (oSome (rC (.int 1))) (oNone))) (gN 1) (tTrue) (rCall 1 m_show_name (aCons (rVar 1) (aNil))) [1]) (aNil))))))
def m_show_sight : List PyData → Option PyData := runB 2 b_show_sight
theorem ck_show_sight (T : Tp K w mg) : CalP P w K mg base 2 "show_sight" ["sight"] m_show_sight := calP_of (k := 1) (ps := ["sight"]) (nN := 2) (b := b_show_sight) T.f_show_sight sc_show_sight rfl (fun _ _ _ _ _ _ us hl => match us, hl with | [_], _ => rfl) fun f Z =>
  pss1_cons (ps1_if (ptd_cmp (zEq Z) o2_eq (pd_ix (zIx Z) o2_ix (pd_var Z 0 (by decide +kernel)) (pd_int)) (pd_gd Z T.g_EMITS (by decide +kernel)) (by rfl)) (pss1_one (ps1_ret (pd_join (pd_gd Z T.g_SPACE (by decide +kernel)) (pd_ct Z (zList Z) oc_list T.n_list (by decide +kernel) (pad_cons (pd_var Z 0 (by decide +kernel)) (pad_nil)) (by decide +kernel)) Z))) (pss1_nil)) (pss1_one (ps1_ret (pd_join (pd_gd Z T.g_SPACE (by decide +kernel)) (pd_lst (pad_cons (pd_ix (zIx Z) o2_ix (pd_var Z 0 (by decide +kernel)) (pd_int)) (pad_star Z (pd_lc Z [("name", 1)] (tgAt_n 1) (pid_tup Z (pd_slice Z (pd_var Z 0 (by decide +kernel)) (pod_some (pd_int)) (pod_none))) (pgd_name (Z.blk _) 1 (by decide +kernel)) (ptsd_nil) (pd_call (Z.blk _) (c_show_name T) (by omega) (pad_cons (pd_var (Z.blk _) 1 (by decide +kernel)) (pad_nil)) (by decide +kernel)) (by decide +kernel) (by decide +kernel)) (pad_nil)))) Z)))
theorem c_show_sight (T : Tp K w mg) : Cal P w K mg base 2 "show_sight" 1 m_show_sight := (ck_show_sight T).cal rfl
abbrev N_read_sight : List Str := ["program", "thing", "words", "told", "found", "word"]
theorem sc_read_sight : FnScope N_read_sight ["program", "thing"] (defScope s_read_sight) := ⟨rfl, rfl, rfl, by decide +kernel, rfl, by decide +kernel, by decide +kernel⟩
def b_read_sight : B1 := sSeq (sDrop (rCall 1 m_must (aCons (rE1 (fIsi "str") (rVar 1)) (aNil)))) (sSeq (sAsg (gN 2) (rE2 fSplit (rVar 1) (rC (.str " ")))) (sSeq (sDrop (rCall 1 m_must (aCons (rAnd (rE2 fGt (rA fLen (aCons (rVar 2) (aNil))) (rC (.int 1))) (rE2 (fIn false) (rE2 fIx (rVar 2) (rC (.int 0))) (rA mkTup (aCons (rC (.str "time")) (aCons (rC (.str "comes")) (aCons (rC (.str "later")) (aCons (rC (.str "emits")) (aNil)))))))) (aNil)))) (sSeq (sDrop (rCall 1 m_must (aCons (rE2 fEq (rA fLen (aCons (rVar 2) (aNil))) (rIf (tVal (rE2 fEq (rE2 fIx (rVar 2) (rC (.int 0))) (rC (.str "later")))) (rC (.int 3)) (rC (.int 2)))) (aNil)))) (sSeq (sDrop (rCall 1 m_must (aCons (rOr (rE2 fNe (rE2 fIx (rVar 2) (rC (.int 0))) (rC (.str "emits"))) (rCall 1 m_is_name (aCons (rE2 fIx (rVar 2) (rC (.int 1))) (aNil)))) (aNil)))) (sSeq (sAsg (gN 3) (rIf (tVal (rE2 fEq (rE2 fIx (rVar 2) (rC (.int 0))) (rC (.str "emits")))) (rCut (rVar 2) (oSome (rC (.int 1))) (oNone)) (rLc (aList (rCut (rVar 2) (oSome (rC (.int 1))) (oNone))) (gN 5) (tTrue) (rCall 1 m_name_in (aCons (rVar 5) (aNil))) [5]))) (sSeq (sAsg (gN 4) (rA mkTup (aCons (rE2 fIx (rVar 2) (rC (.int 0))) (aStar (rVar 3) (aNil))))) (sSeq (sIf (tNotD (tVal (rCall 2 m_is_sight (aCons (rVar 0) (aCons (rVar 4) (aNil)))))) (sNever) (sNext)) (sRet (rVar 4)))))))))
def m_read_sight : List PyData → Option PyData := runB 6 b_read_sight
theorem ck_read_sight (T : Tp K w mg) : CalP P w K mg base 5 "read_sight" ["program", "thing"] m_read_sight := calP_of (k := 4) (ps := ["program", "thing"]) (nN := 6) (b := b_read_sight) T.f_read_sight sc_read_sight rfl (fun _ _ _ _ _ _ us hl => match us, hl with | [_, _], _ => rfl) fun f Z =>
  pss1_cons (ps1_expr (pd_call Z (c_must T) (by omega) (pad_cons (pd_isi Z ty_str (pd_var Z 1 (by decide +kernel)) T.n_isinstance T.n_str (by decide +kernel) (by decide +kernel) (by decide +kernel)) (pad_nil)) (by decide +kernel))) (pss1_cons (ps1_set Z 2 (pd_split (pd_var Z 1 (by decide +kernel)) (pd_gd Z T.g_SPACE (by decide +kernel))) (by decide +kernel)) (pss1_cons (ps1_expr (pd_call Z (c_must T) (by omega) (pad_cons (pd_and (pd_cmp (fun _ _ => op_gt) o2_gt (pd_cb Z (zLen Z) oc_len T.n_len (by decide +kernel) (pad_cons (pd_var Z 2 (by decide +kernel)) (pad_nil)) (by decide +kernel)) (pd_int) (by rfl)) (pd_one (pd_cmp (zIn Z) (o2_inA false) (pd_ix (zIx Z) o2_ix (pd_var Z 2 (by decide +kernel)) (pd_int)) (pd_tup (pad_cons (pd_str) (pad_cons (pd_str) (pad_cons (pd_str) (pad_cons (pd_gd Z T.g_EMITS (by decide +kernel)) (pad_nil)))))) (by rfl)))) (pad_nil)) (by decide +kernel))) (pss1_cons (ps1_expr (pd_call Z (c_must T) (by omega) (pad_cons (pd_cmp (zEq Z) o2_eq (pd_cb Z (zLen Z) oc_len T.n_len (by decide +kernel) (pad_cons (pd_var Z 2 (by decide +kernel)) (pad_nil)) (by decide +kernel)) (pd_if (ptd_cmp (zEq Z) o2_eq (pd_ix (zIx Z) o2_ix (pd_var Z 2 (by decide +kernel)) (pd_int)) (pd_str) (by rfl)) (pd_int) (pd_int)) (by rfl)) (pad_nil)) (by decide +kernel))) (pss1_cons (ps1_expr (pd_call Z (c_must T) (by omega) (pad_cons (pd_or (pd_cmp (zNe Z) o2_ne (pd_ix (zIx Z) o2_ix (pd_var Z 2 (by decide +kernel)) (pd_int)) (pd_gd Z T.g_EMITS (by decide +kernel)) (by rfl)) (pd_one (pd_call Z (c_is_name T) (by omega) (pad_cons (pd_ix (zIx Z) o2_ix (pd_var Z 2 (by decide +kernel)) (pd_int)) (pad_nil)) (by decide +kernel)))) (pad_nil)) (by decide +kernel))) (pss1_cons (ps1_set Z 3 (pd_if (ptd_cmp (zEq Z) o2_eq (pd_ix (zIx Z) o2_ix (pd_var Z 2 (by decide +kernel)) (pd_int)) (pd_gd Z T.g_EMITS (by decide +kernel)) (by rfl)) (pd_slice Z (pd_var Z 2 (by decide +kernel)) (pod_some (pd_int)) (pod_none)) (pd_lc Z [("word", 5)] (tgAt_n 5) (pid_list Z (pd_slice Z (pd_var Z 2 (by decide +kernel)) (pod_some (pd_int)) (pod_none))) (pgd_name (Z.blk _) 5 (by decide +kernel)) (ptsd_nil) (pd_call (Z.blk _) (c_name_in T) (by omega) (pad_cons (pd_var (Z.blk _) 5 (by decide +kernel)) (pad_nil)) (by decide +kernel)) (by decide +kernel) (by decide +kernel))) (by decide +kernel)) (pss1_cons (ps1_set Z 4 (pd_tup (pad_cons (pd_ix (zIx Z) o2_ix (pd_var Z 2 (by decide +kernel)) (pd_int)) (pad_star Z (pd_var Z 3 (by decide +kernel)) (pad_nil)))) (by decide +kernel)) (pss1_cons (ps1_if (ptd_not (ptd_val (pd_call Z (c_is_sight T) (by omega) (pad_cons (pd_var Z 0 (by decide +kernel)) (pad_cons (pd_var Z 4 (by decide +kernel)) (pad_nil))) (by decide +kernel)))) (pss1_one (ps1_never)) (pss1_nil)) (pss1_one (ps1_ret (pd_var Z 4 (by decide +kernel)))))))))))
theorem c_read_sight (T : Tp K w mg) : Cal P w K mg base 5 "read_sight" 2 m_read_sight := (ck_read_sight T).cal rfl
abbrev N_show_measure : List Str := ["measure", "name", "number"]
theorem sc_show_measure : FnScope N_show_measure ["measure"] (defScope s_show_measure) := ⟨rfl, rfl, rfl, by decide +kernel, rfl, by decide +kernel, by decide +kernel⟩
def b_show_measure : B1 := sRet (rE2 fJoin (rC (.str " ")) (rLc (aTup (rVar 0)) (gT [1, 2]) (tTrue) (rE2 fAdd (rE2 fAdd (rCall 1 m_show_number (aCons (rVar 2) (aNil))) (rC (.str "*"))) (rCall 1 m_show_name (aCons (rVar 1) (aNil)))) [1, 2]))
def m_show_measure : List PyData → Option PyData := runB 3 b_show_measure
theorem ck_show_measure (T : Tp K w mg) : CalP P w K mg base 2 "show_measure" ["measure"] m_show_measure := calP_of (k := 1) (ps := ["measure"]) (nN := 3) (b := b_show_measure) T.f_show_measure sc_show_measure rfl (fun _ _ _ _ _ _ us hl => match us, hl with | [_], _ => rfl) fun f Z =>
  pss1_one (ps1_ret (pd_join (pd_gd Z T.g_SPACE (by decide +kernel)) (pd_lc Z [("name", 1), ("number", 2)] (tgAt_t [1, 2]) (pid_tup Z (pd_var Z 0 (by decide +kernel))) (pgd_tup (Z.blk _) (pgsd_cons (Z.blk _) 1 (by decide +kernel) (pgsd_cons (Z.blk _) 2 (by decide +kernel) (pgsd_nil)))) (ptsd_nil) (pd_bin (fun _ _ => op_addA) o2_addA (pd_bin (fun _ _ => op_addA) o2_addA (pd_call (Z.blk _) (c_show_number T) (by omega) (pad_cons (pd_var (Z.blk _) 2 (by decide +kernel)) (pad_nil)) (by decide +kernel)) (pd_gd (Z.blk _) T.g_TIMES (by decide +kernel))) (pd_call (Z.blk _) (c_show_name T) (by omega) (pad_cons (pd_var (Z.blk _) 1 (by decide +kernel)) (pad_nil)) (by decide +kernel))) (by decide +kernel) (by decide +kernel)) Z))
theorem c_show_measure (T : Tp K w mg) : Cal P w K mg base 2 "show_measure" 1 m_show_measure := (ck_show_measure T).cal rfl
abbrev N_read_measure : List Str := ["thing", "found", "word", "number", "mark", "name"]
theorem sc_read_measure : FnScope N_read_measure ["thing"] (defScope s_read_measure) := ⟨rfl, rfl, rfl, by decide +kernel, rfl, by decide +kernel, by decide +kernel⟩
def b_read_measure : B1 := sSeq (sDrop (rCall 1 m_must (aCons (rE1 (fIsi "str") (rVar 0)) (aNil)))) (sSeq (sOw 1 (aNil)) (sSeq (sFor (aList (rE2 fSplit (rVar 0) (rC (.str " ")))) (gN 2) (sSeq (sAsg (gT [3, 4, 5]) (rE2 fPart (rVar 2) (rC (.str "*")))) (sSeq (sDrop (rCall 1 m_must (aCons (rE2 fNe (rVar 4) (rC (.str ""))) (aNil)))) (sApp 1 (rA mkTup (aCons (rCall 1 m_name_in (aCons (rVar 5) (aNil))) (aCons (rCall 1 m_number_in (aCons (rVar 3) (aNil))) (aNil)))))))) (sSeq (sIf (tNotD (tVal (rCall 1 m_is_measure (aCons (rTupOw 1) (aNil))))) (sNever) (sNext)) (sRet (rTupOw 1)))))
def m_read_measure : List PyData → Option PyData := runB 6 b_read_measure
theorem ck_read_measure (T : Tp K w mg) : CalP P w K mg base 5 "read_measure" ["thing"] m_read_measure := calP_of (k := 4) (ps := ["thing"]) (nN := 6) (b := b_read_measure) T.f_read_measure sc_read_measure rfl (fun _ _ _ _ _ _ us hl => match us, hl with | [_], _ => rfl) fun f Z =>
  pss1_cons (ps1_expr (pd_call Z (c_must T) (by omega) (pad_cons (pd_isi Z ty_str (pd_var Z 0 (by decide +kernel)) T.n_isinstance T.n_str (by decide +kernel) (by decide +kernel) (by decide +kernel)) (pad_nil)) (by decide +kernel))) (pss1_cons (ps1_ow Z 1 (by decide +kernel) (pad_nil)) (pss1_cons (ps1_for Z (pid_list Z (pd_split (pd_var Z 0 (by decide +kernel)) (pd_gd Z T.g_SPACE (by decide +kernel)))) (pgd_name Z 2 (by decide +kernel)) (pss1_cons (ps1_asg (pgd_tup Z (pgsd_cons Z 3 (by decide +kernel) (pgsd_cons Z 4 (by decide +kernel) (pgsd_cons Z 5 (by decide +kernel) (pgsd_nil))))) (pd_partition (pd_var Z 2 (by decide +kernel)) (pd_gd Z T.g_TIMES (by decide +kernel)))) (pss1_cons (ps1_expr (pd_call Z (c_must T) (by omega) (pad_cons (pd_cmp (zNe Z) o2_ne (pd_var Z 4 (by decide +kernel)) (pd_str) (by rfl)) (pad_nil)) (by decide +kernel))) (pss1_one (ps1_append Z 1 (by decide +kernel) (pd_tup (pad_cons (pd_call Z (c_name_in T) (by omega) (pad_cons (pd_var Z 5 (by decide +kernel)) (pad_nil)) (by decide +kernel)) (pad_cons (pd_call Z (c_number_in T) (by omega) (pad_cons (pd_var Z 3 (by decide +kernel)) (pad_nil)) (by decide +kernel)) (pad_nil))))))))) (pss1_cons (ps1_if (ptd_not (ptd_val (pd_call Z (c_is_measure T) (by omega) (pad_cons (pd_tupOw Z 1 T.n_tuple (by decide +kernel) (by decide +kernel)) (pad_nil)) (by decide +kernel)))) (pss1_one (ps1_never)) (pss1_nil)) (pss1_one (ps1_ret (pd_tupOw Z 1 T.n_tuple (by decide +kernel) (by decide +kernel)))))))
theorem c_read_measure (T : Tp K w mg) : Cal P w K mg base 5 "read_measure" 1 m_read_measure := (ck_read_measure T).cal rfl
abbrev N_show_box : List Str := ["box", "told", "variable", "low", "high"]
theorem sc_show_box : FnScope N_show_box ["box"] (defScope s_show_box) := ⟨rfl, rfl, rfl, by decide +kernel, rfl, by decide +kernel, by decide +kernel⟩
def b_show_box : B1 := sSeq (sAsg (gN 1) (rLc (aTup (rVar 0)) (gT [2, 3, 4]) (tTrue) (rA mkTup (aCons (rVar 2) (aCons (rCall 1 m_show_number (aCons (rVar 3) (aNil))) (aCons (rCall 1 m_show_number (aCons (rVar 4) (aNil))) (aNil))))) [2, 3, 4])) (sRet (rE2 fJoin (rC (.str " ")) (rLc (aList (rVar 1)) (gT [2, 3, 4]) (tTrue) (rE2 fAdd (rE2 fAdd (rE2 fAdd (rE2 fAdd (rVar 2) (rC (.str "="))) (rVar 3)) (rC (.str ":"))) (rVar 4)) [2, 3, 4])))
def m_show_box : List PyData → Option PyData := runB 5 b_show_box
theorem ck_show_box (T : Tp K w mg) : CalP P w K mg base 2 "show_box" ["box"] m_show_box := calP_of (k := 1) (ps := ["box"]) (nN := 5) (b := b_show_box) T.f_show_box sc_show_box rfl (fun _ _ _ _ _ _ us hl => match us, hl with | [_], _ => rfl) fun f Z =>
  pss1_cons (ps1_setLc Z 1 [("variable", 2), ("low", 3), ("high", 4)] (tgAt_t [2, 3, 4]) (pid_tup Z (pd_var Z 0 (by decide +kernel))) (pgd_tup (Z.blk _) (pgsd_cons (Z.blk _) 2 (by decide +kernel) (pgsd_cons (Z.blk _) 3 (by decide +kernel) (pgsd_cons (Z.blk _) 4 (by decide +kernel) (pgsd_nil))))) (ptsd_nil) (pd_tup (pad_cons (pd_var (Z.blk _) 2 (by decide +kernel)) (pad_cons (pd_call (Z.blk _) (c_show_number T) (by omega) (pad_cons (pd_var (Z.blk _) 3 (by decide +kernel)) (pad_nil)) (by decide +kernel)) (pad_cons (pd_call (Z.blk _) (c_show_number T) (by omega) (pad_cons (pd_var (Z.blk _) 4 (by decide +kernel)) (pad_nil)) (by decide +kernel)) (pad_nil))))) (by decide +kernel) (by decide +kernel) rfl (by rfl) (by rfl) (by rfl) (by decide +kernel)) (pss1_one (ps1_ret (pd_join (pd_gd Z T.g_SPACE (by decide +kernel)) (pd_lc Z [("variable", 2), ("low", 3), ("high", 4)] (tgAt_t [2, 3, 4]) (pid_list Z (pd_var Z 1 (by decide +kernel))) (pgd_tup (Z.blk _) (pgsd_cons (Z.blk _) 2 (by decide +kernel) (pgsd_cons (Z.blk _) 3 (by decide +kernel) (pgsd_cons (Z.blk _) 4 (by decide +kernel) (pgsd_nil))))) (ptsd_nil) (pd_bin (fun _ _ => op_addA) o2_addA (pd_bin (fun _ _ => op_addA) o2_addA (pd_bin (fun _ _ => op_addA) o2_addA (pd_bin (fun _ _ => op_addA) o2_addA (pd_var (Z.blk _) 2 (by decide +kernel)) (pd_gd (Z.blk _) T.g_EQUALS (by decide +kernel))) (pd_var (Z.blk _) 3 (by decide +kernel))) (pd_gd (Z.blk _) T.g_COLON (by decide +kernel))) (pd_var (Z.blk _) 4 (by decide +kernel))) (by decide +kernel) (by decide +kernel)) Z)))
theorem c_show_box (T : Tp K w mg) : Cal P w K mg base 2 "show_box" 1 m_show_box := (ck_show_box T).cal rfl
abbrev N_read_box : List Str := ["program", "thing", "found", "word", "variable", "mark", "ends", "low", "colon", "high"]
theorem sc_read_box : FnScope N_read_box ["program", "thing"] (defScope s_read_box) := ⟨rfl, rfl, rfl, by decide +kernel, rfl, by decide +kernel, by decide +kernel⟩
def b_read_box : B1 := sSeq (sDrop (rCall 1 m_must (aCons (rE1 (fIsi "str") (rVar 1)) (aNil)))) (sSeq (sOw 2 (aNil)) (sSeq (sFor (aList (rIf (tVal (rE2 fNe (rVar 1) (rC (.str "")))) (rE2 fSplit (rVar 1) (rC (.str " "))) (rA mkLst (aNil)))) (gN 3) (sSeq (sAsg (gT [4, 5, 6]) (rE2 fPart (rVar 3) (rC (.str "=")))) (sSeq (sAsg (gT [7, 8, 9]) (rE2 fPart (rVar 6) (rC (.str ":")))) (sSeq (sDrop (rCall 1 m_must (aCons (rAnd (rE2 fNe (rVar 5) (rC (.str ""))) (rAnd (rE2 fNe (rVar 8) (rC (.str ""))) (rCall 1 m_is_name (aCons (rVar 4) (aNil))))) (aNil)))) (sApp 2 (rA mkTup (aCons (rVar 4) (aCons (rCall 1 m_number_in (aCons (rVar 7) (aNil))) (aCons (rCall 1 m_number_in (aCons (rVar 9) (aNil))) (aNil)))))))))) (sSeq (sIf (tNotD (tVal (rCall 2 m_is_box (aCons (rVar 0) (aCons (rTupOw 2) (aNil)))))) (sNever) (sNext)) (sRet (rTupOw 2)))))
def m_read_box : List PyData → Option PyData := runB 10 b_read_box
theorem ck_read_box (T : Tp K w mg) : CalP P w K mg base 4 "read_box" ["program", "thing"] m_read_box := calP_of (k := 3) (ps := ["program", "thing"]) (nN := 10) (b := b_read_box) T.f_read_box sc_read_box rfl (fun _ _ _ _ _ _ us hl => match us, hl with | [_, _], _ => rfl) fun f Z =>
  pss1_cons (ps1_expr (pd_call Z (c_must T) (by omega) (pad_cons (pd_isi Z ty_str (pd_var Z 1 (by decide +kernel)) T.n_isinstance T.n_str (by decide +kernel) (by decide +kernel) (by decide +kernel)) (pad_nil)) (by decide +kernel))) (pss1_cons (ps1_ow Z 2 (by decide +kernel) (pad_nil)) (pss1_cons (ps1_for Z (pid_list Z (pd_if (ptd_cmp (zNe Z) o2_ne (pd_var Z 1 (by decide +kernel)) (pd_str) (by rfl)) (pd_split (pd_var Z 1 (by decide +kernel)) (pd_gd Z T.g_SPACE (by decide +kernel))) (pd_lst (pad_nil)))) (pgd_name Z 3 (by decide +kernel)) (pss1_cons (ps1_asg (pgd_tup Z (pgsd_cons Z 4 (by decide +kernel) (pgsd_cons Z 5 (by decide +kernel) (pgsd_cons Z 6 (by decide +kernel) (pgsd_nil))))) (pd_partition (pd_var Z 3 (by decide +kernel)) (pd_gd Z T.g_EQUALS (by decide +kernel)))) (pss1_cons (ps1_asg (pgd_tup Z (pgsd_cons Z 7 (by decide +kernel) (pgsd_cons Z 8 (by decide +kernel) (pgsd_cons Z 9 (by decide +kernel) (pgsd_nil))))) (pd_partition (pd_var Z 6 (by decide +kernel)) (pd_gd Z T.g_COLON (by decide +kernel)))) (pss1_cons (ps1_expr (pd_call Z (c_must T) (by omega) (pad_cons (pd_and (pd_cmp (zNe Z) o2_ne (pd_var Z 5 (by decide +kernel)) (pd_str) (by rfl)) (pd_and (pd_cmp (zNe Z) o2_ne (pd_var Z 8 (by decide +kernel)) (pd_str) (by rfl)) (pd_one (pd_call Z (c_is_name T) (by omega) (pad_cons (pd_var Z 4 (by decide +kernel)) (pad_nil)) (by decide +kernel))))) (pad_nil)) (by decide +kernel))) (pss1_one (ps1_append Z 2 (by decide +kernel) (pd_tup (pad_cons (pd_var Z 4 (by decide +kernel)) (pad_cons (pd_call Z (c_number_in T) (by omega) (pad_cons (pd_var Z 7 (by decide +kernel)) (pad_nil)) (by decide +kernel)) (pad_cons (pd_call Z (c_number_in T) (by omega) (pad_cons (pd_var Z 9 (by decide +kernel)) (pad_nil)) (by decide +kernel)) (pad_nil))))))))))) (pss1_cons (ps1_if (ptd_not (ptd_val (pd_call Z (c_is_box T) (by omega) (pad_cons (pd_var Z 0 (by decide +kernel)) (pad_cons (pd_tupOw Z 2 T.n_tuple (by decide +kernel) (by decide +kernel)) (pad_nil))) (by decide +kernel)))) (pss1_one (ps1_never)) (pss1_nil)) (pss1_one (ps1_ret (pd_tupOw Z 2 T.n_tuple (by decide +kernel) (by decide +kernel)))))))
theorem c_read_box (T : Tp K w mg) : Cal P w K mg base 4 "read_box" 2 m_read_box := (ck_read_box T).cal rfl
abbrev N__law_same : List Str := ["told", "due", "one", "it"]
theorem sc__law_same : FnScope N__law_same ["told", "due"] (defScope s__law_same) := ⟨rfl, rfl, rfl, by decide +kernel, rfl, by decide +kernel, by decide +kernel⟩
def b__law_same (m : List PyData → Option PyData) : B1 := sSeq (sIf (tVal (rE1 (fIsi2 "tuple" "list") (rVar 1))) (sSeq (sIf (tOrD (tVal (rE2 fNe (rE1 (fIsi "tuple") (rVar 0)) (rE1 (fIsi "tuple") (rVar 1)))) (tNotD (tVal (rE1 (fIsi2 "tuple" "list") (rVar 0))))) (sRet (rC (.bool false))) (sNext)) (sRet (rAnd (rE2 fEq (rA fLen (aCons (rVar 0) (aNil))) (rA fLen (aCons (rVar 1) (aNil)))) (rE2 fEq (rLc (aZip (aCons (rVar 0) (aCons (rVar 1) (aNil)))) (gT [2, 3]) (tNotD (tVal (rCall 2 m (aCons (rVar 2) (aCons (rVar 3) (aNil)))))) (rC (.int 1)) [2, 3]) (rA mkLst (aNil)))))) (sNext)) (sSeq (sIf (tOrD (tVal (rE2 fIsN (rVar 1) (rC .none))) (tVal (rE1 (fIsi "dict") (rVar 1)))) (sRet (rIf (tVal (rE2 fIsN (rVar 1) (rC .none))) (rE2 fIsN (rVar 0) (rC .none)) (rAnd (rE1 (fIsi "dict") (rVar 0)) (rE2 fEq (rA fLen (aCons (rVar 0) (aNil))) (rA fLen (aCons (rVar 1) (aNil))))))) (sNext)) (sSeq (sIf (tVal (rE1 (fIsi "str") (rVar 1))) (sRet (rAnd (rE1 (fIsi "str") (rVar 0)) (rE2 fEq (rVar 0) (rVar 1)))) (sNext)) (sRet (rAnd (rE1 (fIsi "int") (rVar 0)) (rAnd (rE2 fEq (rE1 (fIsi "bool") (rVar 0)) (rE1 (fIsi "bool") (rVar 1))) (rE2 fEq (rVar 0) (rVar 1)))))))
def m__law_same : Nat → List PyData → Option PyData
  | 0 => fun _ => none
  | n + 1 => runB 4 (b__law_same (m__law_same n))
theorem c__law_same (T : Tp K w mg) : ∀ n, Cal P w K mg base (0 + n) "_law_same" 2 (m__law_same n)
  | 0 => cal_zero (ps := ["told", "due"]) T.f__law_same rfl (fun _ _ _ _ _ _ us hl => match us, hl with | [_, _], _ => rfl)
  | n + 1 => by
    have ih := c__law_same T n
    exact cal_of (k := 0 + n) (ps := ["told", "due"]) (nN := 4) (b := b__law_same (m__law_same n)) T.f__law_same sc__law_same rfl rfl (fun _ _ _ _ _ _ us hl => match us, hl with | [_, _], _ => rfl) fun f Z =>
      pss1_cons (ps1_if (ptd_val (pd_isi2 Z ty_tuple ty_list (pd_var Z 1 (by decide +kernel)) T.n_isinstance T.n_tuple T.n_list (by decide +kernel) (by decide +kernel) (by decide +kernel) (by decide +kernel) (by decide +kernel))) (pss1_cons (ps1_if (PWd.pt (pwd_or (ptd_cmp (zNe Z) o2_ne (pd_isi Z ty_tuple (pd_var Z 0 (by decide +kernel)) T.n_isinstance T.n_tuple (by decide +kernel) (by decide +kernel) (by decide +kernel)) (pd_isi Z ty_tuple (pd_var Z 1 (by decide +kernel)) T.n_isinstance T.n_tuple (by decide +kernel) (by decide +kernel) (by decide +kernel)) (by rfl)) (pwd_or1 (ptd_not (ptd_val (pd_isi2 Z ty_tuple ty_list (pd_var Z 0 (by decide +kernel)) T.n_isinstance T.n_tuple T.n_list (by decide +kernel) (by decide +kernel) (by decide +kernel) (by decide +kernel) (by decide +kernel))))))) (pss1_one (ps1_ret (pd_bl))) (pss1_nil)) (pss1_one (ps1_ret (pd_and (pd_cmp (zEq Z) o2_eq (pd_cb Z (zLen Z) oc_len T.n_len (by decide +kernel) (pad_cons (pd_var Z 0 (by decide +kernel)) (pad_nil)) (by decide +kernel)) (pd_cb Z (zLen Z) oc_len T.n_len (by decide +kernel) (pad_cons (pd_var Z 1 (by decide +kernel)) (pad_nil)) (by decide +kernel)) (by rfl)) (pd_one (pd_cmp (zEq Z) o2_eq (pd_lc Z [("one", 2), ("it", 3)] (tgAt_t [2, 3]) (pid_zip Z T.n_zip (pad_cons (pd_var Z 0 (by decide +kernel)) (pad_cons (pd_var Z 1 (by decide +kernel)) (pad_nil))) (by decide +kernel)) (pgd_tup (Z.blk _) (pgsd_cons (Z.blk _) 2 (by decide +kernel) (pgsd_cons (Z.blk _) 3 (by decide +kernel) (pgsd_nil)))) (ptsd_one (ptd_not (ptd_val (pd_call (Z.blk _) ih (by omega) (pad_cons (pd_var (Z.blk _) 2 (by decide +kernel)) (pad_cons (pd_var (Z.blk _) 3 (by decide +kernel)) (pad_nil))) (by decide +kernel))))) (pd_int) (by decide +kernel) (by decide +kernel)) (pd_lst (pad_nil)) (by rfl))))))) (pss1_nil)) (pss1_cons (ps1_if (PWd.pt (pwd_or (ptd_cmp (fun _ _ => op_isN) o2_isN (pd_var Z 1 (by decide +kernel)) (pd_non) (by rfl)) (pwd_or1 (ptd_val (pd_isi Z ty_dict (pd_var Z 1 (by decide +kernel)) T.n_isinstance T.n_dict (by decide +kernel) (by decide +kernel) (by decide +kernel)))))) (pss1_one (ps1_ret (pd_if (ptd_cmp (fun _ _ => op_isN) o2_isN (pd_var Z 1 (by decide +kernel)) (pd_non) (by rfl)) (pd_cmp (fun _ _ => op_isN) o2_isN (pd_var Z 0 (by decide +kernel)) (pd_non) (by rfl)) (pd_and (pd_isi Z ty_dict (pd_var Z 0 (by decide +kernel)) T.n_isinstance T.n_dict (by decide +kernel) (by decide +kernel) (by decide +kernel)) (pd_one (pd_cmp (zEq Z) o2_eq (pd_cb Z (zLen Z) oc_len T.n_len (by decide +kernel) (pad_cons (pd_var Z 0 (by decide +kernel)) (pad_nil)) (by decide +kernel)) (pd_cb Z (zLen Z) oc_len T.n_len (by decide +kernel) (pad_cons (pd_var Z 1 (by decide +kernel)) (pad_nil)) (by decide +kernel)) (by rfl))))))) (pss1_nil)) (pss1_cons (ps1_if (ptd_val (pd_isi Z ty_str (pd_var Z 1 (by decide +kernel)) T.n_isinstance T.n_str (by decide +kernel) (by decide +kernel) (by decide +kernel))) (pss1_one (ps1_ret (pd_and (pd_isi Z ty_str (pd_var Z 0 (by decide +kernel)) T.n_isinstance T.n_str (by decide +kernel) (by decide +kernel) (by decide +kernel)) (pd_one (pd_cmp (zEq Z) o2_eq (pd_var Z 0 (by decide +kernel)) (pd_var Z 1 (by decide +kernel)) (by rfl)))))) (pss1_nil)) (pss1_one (ps1_ret (pd_and (pd_isi Z ty_int (pd_var Z 0 (by decide +kernel)) T.n_isinstance T.n_int (by decide +kernel) (by decide +kernel) (by decide +kernel)) (pd_and (pd_cmp (zEq Z) o2_eq (pd_isi Z ty_bool (pd_var Z 0 (by decide +kernel)) T.n_isinstance T.n_bool (by decide +kernel) (by decide +kernel) (by decide +kernel)) (pd_isi Z ty_bool (pd_var Z 1 (by decide +kernel)) T.n_isinstance T.n_bool (by decide +kernel) (by decide +kernel) (by decide +kernel)) (by rfl)) (pd_one (pd_cmp (zEq Z) o2_eq (pd_var Z 0 (by decide +kernel)) (pd_var Z 1 (by decide +kernel)) (by rfl)))))))))
abbrev N__law_shown : List Str := ["number"]
theorem sc__law_shown : FnScope N__law_shown ["number"] (defScope s__law_shown) := ⟨rfl, rfl, rfl, by decide +kernel, rfl, by decide +kernel, by decide +kernel⟩
def b__law_shown : B1 := sRet (rIf (tVal (rE1 (fIsi "tuple") (rVar 0))) (rE2 fAdd (rE2 fAdd (rA fStr (aCons (rE2 fIx (rVar 0) (rC (.int 0))) (aNil))) (rC (.str "/"))) (rA fStr (aCons (rE2 fIx (rVar 0) (rC (.int 1))) (aNil)))) (rA fStr (aCons (rVar 0) (aNil))))
def m__law_shown : List PyData → Option PyData := runB 1 b__law_shown
theorem c__law_shown (T : Tp K w mg) : Cal P w K mg base 1 "_law_shown" 1 m__law_shown := cal_of (k := 0) (ps := ["number"]) (nN := 1) (b := b__law_shown) T.f__law_shown sc__law_shown rfl rfl (fun _ _ _ _ _ _ us hl => match us, hl with | [_], _ => rfl) fun f Z =>
  pss1_one (ps1_ret (pd_if (ptd_val (pd_isi Z ty_tuple (pd_var Z 0 (by decide +kernel)) T.n_isinstance T.n_tuple (by decide +kernel) (by decide +kernel) (by decide +kernel))) (pd_bin (fun _ _ => op_addA) o2_addA (pd_bin (fun _ _ => op_addA) o2_addA (pd_ct Z (fun _ _ => call_str_int) oc_str T.n_str (by decide +kernel) (pad_cons (pd_ix (zIx Z) o2_ix (pd_var Z 0 (by decide +kernel)) (pd_int)) (pad_nil)) (by decide +kernel)) (pd_str)) (pd_ct Z (fun _ _ => call_str_int) oc_str T.n_str (by decide +kernel) (pad_cons (pd_ix (zIx Z) o2_ix (pd_var Z 0 (by decide +kernel)) (pd_int)) (pad_nil)) (by decide +kernel))) (pd_ct Z (fun _ _ => call_str_int) oc_str T.n_str (by decide +kernel) (pad_cons (pd_var Z 0 (by decide +kernel)) (pad_nil)) (by decide +kernel))))
abbrev N__law_written : List Str := ["e", "sign"]
theorem sc__law_written : FnScope N__law_written ["e"] (defScope s__law_written) := ⟨rfl, rfl, rfl, by decide +kernel, rfl, by decide +kernel, by decide +kernel⟩
def b__law_written (m : List PyData → Option PyData) : B1 := sSeq (sIf (tNotD (tVal (rE1 (fIsi "tuple") (rVar 0)))) (sRet (rA fStr (aCons (rVar 0) (aNil)))) (sNext)) (sSeq (sIf (tVal (rE2 fEq (rE2 fIx (rVar 0) (rC (.int 0))) (rC (.str "variable")))) (sRet (rE2 fIx (rVar 0) (rC (.int 1)))) (sNext)) (sSeq (sAsg (gN 1) (rDispGet (dCons "plus" (rC (.str " + ")) (dCons "minus" (rC (.str " - ")) (dCons "times" (rC (.str " * ")) (dNil)))) (rE2 fIx (rVar 0) (rC (.int 0))))) (sRet (rE2 fAdd (rE2 fAdd (rE2 fAdd (rE2 fAdd (rC (.str "(")) (rIf (tVal (rE2 fEq (rE2 fIx (rVar 0) (rC (.int 0))) (rC (.str "times")))) (rA fStr (aCons (rE2 fIx (rVar 0) (rC (.int 1))) (aNil))) (rCall 1 m (aCons (rE2 fIx (rVar 0) (rC (.int 1))) (aNil))))) (rVar 1)) (rCall 1 m (aCons (rE2 fIx (rVar 0) (rC (.int 2))) (aNil)))) (rC (.str ")"))))))
def m__law_written : Nat → List PyData → Option PyData
  | 0 => fun _ => none
  | n + 1 => runB 2 (b__law_written (m__law_written n))
theorem c__law_written (T : Tp K w mg) : ∀ n, Cal P w K mg base (0 + n) "_law_written" 1 (m__law_written n)
  | 0 => cal_zero (ps := ["e"]) T.f__law_written rfl (fun _ _ _ _ _ _ us hl => match us, hl with | [_], _ => rfl)
  | n + 1 => by
    have ih := c__law_written T n
    exact cal_of (k := 0 + n) (ps := ["e"]) (nN := 2) (b := b__law_written (m__law_written n)) T.f__law_written sc__law_written rfl rfl (fun _ _ _ _ _ _ us hl => match us, hl with | [_], _ => rfl) fun f Z =>
      pss1_cons (ps1_if (ptd_not (ptd_val (pd_isi Z ty_tuple (pd_var Z 0 (by decide +kernel)) T.n_isinstance T.n_tuple (by decide +kernel) (by decide +kernel) (by decide +kernel)))) (pss1_one (ps1_ret (pd_ct Z (fun _ _ => call_str_int) oc_str T.n_str (by decide +kernel) (pad_cons (pd_var Z 0 (by decide +kernel)) (pad_nil)) (by decide +kernel)))) (pss1_nil)) (pss1_cons (ps1_if (ptd_cmp (zEq Z) o2_eq (pd_ix (zIx Z) o2_ix (pd_var Z 0 (by decide +kernel)) (pd_int)) (pd_str) (by rfl)) (pss1_one (ps1_ret (pd_ix (zIx Z) o2_ix (pd_var Z 0 (by decide +kernel)) (pd_int)))) (pss1_nil)) (pss1_cons (ps1_set Z 1 (pd_dispGet Z (pdd_cons (pd_str) (pdd_cons (pd_str) (pdd_cons (pd_str) (pdd_nil)))) (pd_ix (zIx Z) o2_ix (pd_var Z 0 (by decide +kernel)) (pd_int))) (by decide +kernel)) (pss1_one (ps1_ret (pd_bin (fun _ _ => op_addA) o2_addA (pd_bin (fun _ _ => op_addA) o2_addA (pd_bin (fun _ _ => op_addA) o2_addA (pd_bin (fun _ _ => op_addA) o2_addA (pd_str) (pd_if (ptd_cmp (zEq Z) o2_eq (pd_ix (zIx Z) o2_ix (pd_var Z 0 (by decide +kernel)) (pd_int)) (pd_str) (by rfl)) (pd_ct Z (fun _ _ => call_str_int) oc_str T.n_str (by decide +kernel) (pad_cons (pd_ix (zIx Z) o2_ix (pd_var Z 0 (by decide +kernel)) (pd_int)) (pad_nil)) (by decide +kernel)) (pd_call Z ih (by omega) (pad_cons (pd_ix (zIx Z) o2_ix (pd_var Z 0 (by decide +kernel)) (pd_int)) (pad_nil)) (by decide +kernel)))) (pd_var Z 1 (by decide +kernel))) (pd_call Z ih (by omega) (pad_cons (pd_ix (zIx Z) o2_ix (pd_var Z 0 (by decide +kernel)) (pd_int)) (pad_nil)) (by decide +kernel))) (pd_str))))))
abbrev N__law_event : List Str := ["name", "round_now"]
theorem sc__law_event : FnScope N__law_event ["name"] (defScope s__law_event) := ⟨rfl, rfl, rfl, by decide +kernel, rfl, by decide +kernel, by decide +kernel⟩
def b__law_event : B1 := sRet (rE2 fJoin (rC (.str ":")) (rA mkLst (aCons (rA fStr (aCons (rE2 fIx (rVar 0) (rC (.int 0))) (aNil))) (aCons (rA fStr (aCons (rE2 fIx (rVar 0) (rC (.int 1))) (aNil))) (aCons (rE2 fJoin (rC (.str ".")) (rLc (aTup (rE2 fIx (rVar 0) (rC (.int 2)))) (gN 1) (tTrue) (rA fStr (aCons (rVar 1) (aNil))) [1])) (aCons (rE2 fIx (rVar 0) (rC (.int 3))) (aNil)))))))
def m__law_event : List PyData → Option PyData := runB 2 b__law_event
theorem c__law_event (T : Tp K w mg) : Cal P w K mg base 1 "_law_event" 1 m__law_event := cal_of (k := 0) (ps := ["name"]) (nN := 2) (b := b__law_event) T.f__law_event sc__law_event rfl rfl (fun _ _ _ _ _ _ us hl => match us, hl with | [_], _ => rfl) fun f Z =>
  pss1_one (ps1_ret (pd_join (pd_str) (pd_lst (pad_cons (pd_ct Z (fun _ _ => call_str_int) oc_str T.n_str (by decide +kernel) (pad_cons (pd_ix (zIx Z) o2_ix (pd_var Z 0 (by decide +kernel)) (pd_int)) (pad_nil)) (by decide +kernel)) (pad_cons (pd_ct Z (fun _ _ => call_str_int) oc_str T.n_str (by decide +kernel) (pad_cons (pd_ix (zIx Z) o2_ix (pd_var Z 0 (by decide +kernel)) (pd_int)) (pad_nil)) (by decide +kernel)) (pad_cons (pd_join (pd_str) (pd_lc Z [("round_now", 1)] (tgAt_n 1) (pid_tup Z (pd_ix (zIx Z) o2_ix (pd_var Z 0 (by decide +kernel)) (pd_int))) (pgd_name (Z.blk _) 1 (by decide +kernel)) (ptsd_nil) (pd_ct (Z.blk _) (fun _ _ => call_str_int) oc_str T.n_str (by decide +kernel) (pad_cons (pd_var (Z.blk _) 1 (by decide +kernel)) (pad_nil)) (by decide +kernel)) (by decide +kernel) (by decide +kernel)) Z) (pad_cons (pd_ix (zIx Z) o2_ix (pd_var Z 0 (by decide +kernel)) (pd_int)) (pad_nil)))))) Z))
abbrev N__law_flat : List Str := ["it", "found", "part"]
theorem sc__law_flat : FnScope N__law_flat ["it"] (defScope s__law_flat) := ⟨rfl, rfl, rfl, by decide +kernel, rfl, by decide +kernel, by decide +kernel⟩
def b__law_flat (m : List PyData → Option PyData) : B1 := sSeq (sIf (tVal (rE2 fNe (rE2 fIx (rVar 0) (rC (.int 0))) (rC (.str "all")))) (sRet (rA mkLst (aCons (rVar 0) (aNil)))) (sNext)) (sSeq (sAsg (gN 1) (rA mkLst (aNil))) (sSeq (sFor (aTup (rE2 fIx (rVar 0) (rC (.int 1)))) (gN 2) (sAsg (gN 1) (rE2 fAdd (rVar 1) (rCall 1 m (aCons (rVar 2) (aNil)))))) (sRet (rVar 1))))
def m__law_flat : Nat → List PyData → Option PyData
  | 0 => fun _ => none
  | n + 1 => runB 3 (b__law_flat (m__law_flat n))
theorem c__law_flat (T : Tp K w mg) : ∀ n, Cal P w K mg base (0 + n) "_law_flat" 1 (m__law_flat n)
  | 0 => cal_zero (ps := ["it"]) T.f__law_flat rfl (fun _ _ _ _ _ _ us hl => match us, hl with | [_], _ => rfl)
  | n + 1 => by
    have ih := c__law_flat T n
    exact cal_of (k := 0 + n) (ps := ["it"]) (nN := 3) (b := b__law_flat (m__law_flat n)) T.f__law_flat sc__law_flat rfl rfl (fun _ _ _ _ _ _ us hl => match us, hl with | [_], _ => rfl) fun f Z =>
      pss1_cons (ps1_if (ptd_cmp (zNe Z) o2_ne (pd_ix (zIx Z) o2_ix (pd_var Z 0 (by decide +kernel)) (pd_int)) (pd_str) (by rfl)) (pss1_one (ps1_ret (pd_lst (pad_cons (pd_var Z 0 (by decide +kernel)) (pad_nil))))) (pss1_nil)) (pss1_cons (ps1_set Z 1 (pd_lst (pad_nil)) (by decide +kernel)) (pss1_cons (ps1_for Z (pid_tup Z (pd_ix (zIx Z) o2_ix (pd_var Z 0 (by decide +kernel)) (pd_int))) (pgd_name Z 2 (by decide +kernel)) (pss1_one (ps1_set Z 1 (pd_bin (fun _ _ => op_addA) o2_addA (pd_var Z 1 (by decide +kernel)) (pd_call Z ih (by omega) (pad_cons (pd_var Z 2 (by decide +kernel)) (pad_nil)) (by decide +kernel))) (by decide +kernel)))) (pss1_one (ps1_ret (pd_var Z 1 (by decide +kernel))))))
abbrev N__law_part_text : List Str := ["it", "number"]
theorem sc__law_part_text : FnScope N__law_part_text ["it"] (defScope s__law_part_text) := ⟨rfl, rfl, rfl, by decide +kernel, rfl, by decide +kernel, by decide +kernel⟩
def b__law_part_text : B1 := sSeq (sIf (tVal (rE2 fEq (rE2 fIx (rVar 0) (rC (.int 0))) (rC (.str "ends")))) (sRet (rE2 fAdd (rE2 fAdd (rE2 fAdd (rC (.str "ends ")) (rA fStr (aCons (rE2 fIx (rVar 0) (rC (.int 1))) (aNil)))) (rC (.str " "))) (rCall 1 (m__law_written 6) (aCons (rE2 fIx (rVar 0) (rC (.int 2))) (aNil))))) (sNext)) (sSeq (sIf (tVal (rE2 fEq (rE2 fIx (rVar 0) (rC (.int 0))) (rC (.str "emits")))) (sRet (rE2 fAdd (rE2 fAdd (rC (.str "emits ")) (rE2 fIx (rVar 0) (rC (.int 1)))) (rIf (tVal (rE2 fNe (rE2 fIx (rVar 0) (rC (.int 2))) (rA mkTup (aNil)))) (rE2 fAdd (rC (.str " ")) (rE2 fJoin (rC (.str ",")) (rLc (aTup (rE2 fIx (rVar 0) (rC (.int 2)))) (gN 1) (tTrue) (rCall 1 m__law_shown (aCons (rVar 1) (aNil))) [1]))) (rC (.str ""))))) (sNext)) (sRet (rE2 fIx (rVar 0) (rC (.int 0)))))
def m__law_part_text : List PyData → Option PyData := runB 2 b__law_part_text
theorem c__law_part_text (T : Tp K w mg) : Cal P w K mg base 7 "_law_part_text" 1 m__law_part_text := cal_of (k := 6) (ps := ["it"]) (nN := 2) (b := b__law_part_text) T.f__law_part_text sc__law_part_text rfl rfl (fun _ _ _ _ _ _ us hl => match us, hl with | [_], _ => rfl) fun f Z =>
  pss1_cons (ps1_if (ptd_cmp (zEq Z) o2_eq (pd_ix (zIx Z) o2_ix (pd_var Z 0 (by decide +kernel)) (pd_int)) (pd_str) (by rfl)) (pss1_one (ps1_ret (pd_bin (fun _ _ => op_addA) o2_addA (pd_bin (fun _ _ => op_addA) o2_addA (pd_bin (fun _ _ => op_addA) o2_addA (pd_str) (pd_ct Z (fun _ _ => call_str_int) oc_str T.n_str (by decide +kernel) (pad_cons (pd_ix (zIx Z) o2_ix (pd_var Z 0 (by decide +kernel)) (pd_int)) (pad_nil)) (by decide +kernel))) (pd_str)) (pd_call Z (c__law_written T 6) (by omega) (pad_cons (pd_ix (zIx Z) o2_ix (pd_var Z 0 (by decide +kernel)) (pd_int)) (pad_nil)) (by decide +kernel))))) (pss1_nil)) (pss1_cons (ps1_if (ptd_cmp (zEq Z) o2_eq (pd_ix (zIx Z) o2_ix (pd_var Z 0 (by decide +kernel)) (pd_int)) (pd_str) (by rfl)) (pss1_one (ps1_ret (pd_bin (fun _ _ => op_addA) o2_addA (pd_bin (fun _ _ => op_addA) o2_addA (pd_str) (pd_ix (zIx Z) o2_ix (pd_var Z 0 (by decide +kernel)) (pd_int))) (pd_if (ptd_cmp (zNe Z) o2_ne (pd_ix (zIx Z) o2_ix (pd_var Z 0 (by decide +kernel)) (pd_int)) (pd_tup (pad_nil)) (by rfl)) (pd_bin (fun _ _ => op_addA) o2_addA (pd_str) (pd_join (pd_str) (pd_lc Z [("number", 1)] (tgAt_n 1) (pid_tup Z (pd_ix (zIx Z) o2_ix (pd_var Z 0 (by decide +kernel)) (pd_int))) (pgd_name (Z.blk _) 1 (by decide +kernel)) (ptsd_nil) (pd_call (Z.blk _) (c__law_shown T) (by omega) (pad_cons (pd_var (Z.blk _) 1 (by decide +kernel)) (pad_nil)) (by decide +kernel)) (by decide +kernel) (by decide +kernel)) Z)) (pd_str))))) (pss1_nil)) (pss1_one (ps1_ret (pd_ix (zIx Z) o2_ix (pd_var Z 0 (by decide +kernel)) (pd_int)))))
abbrev N__law_requirement_text : List Str := ["it", "parts", "part"]
theorem sc__law_requirement_text : FnScope N__law_requirement_text ["it"] (defScope s__law_requirement_text) := ⟨rfl, rfl, rfl, by decide +kernel, rfl, by decide +kernel, by decide +kernel⟩
def b__law_requirement_text : B1 := sSeq (sAsg (gN 1) (rCall 1 (m__law_flat 4) (aCons (rVar 0) (aNil)))) (sRet (rIf (tVal (rE2 fNe (rVar 1) (rA mkLst (aNil)))) (rE2 fJoin (rC (.str "; ")) (rLc (aList (rVar 1)) (gN 2) (tTrue) (rCall 1 m__law_part_text (aCons (rVar 2) (aNil))) [2])) (rC (.str "all"))))
def m__law_requirement_text : List PyData → Option PyData := runB 3 b__law_requirement_text
theorem c__law_requirement_text (T : Tp K w mg) : Cal P w K mg base 8 "_law_requirement_text" 1 m__law_requirement_text := cal_of (k := 7) (ps := ["it"]) (nN := 3) (b := b__law_requirement_text) T.f__law_requirement_text sc__law_requirement_text rfl rfl (fun _ _ _ _ _ _ us hl => match us, hl with | [_], _ => rfl) fun f Z =>
  pss1_cons (ps1_set Z 1 (pd_call Z (c__law_flat T 4) (by omega) (pad_cons (pd_var Z 0 (by decide +kernel)) (pad_nil)) (by decide +kernel)) (by decide +kernel)) (pss1_one (ps1_ret (pd_if (ptd_cmp (zNe Z) o2_ne (pd_var Z 1 (by decide +kernel)) (pd_lst (pad_nil)) (by rfl)) (pd_join (pd_str) (pd_lc Z [("part", 2)] (tgAt_n 2) (pid_list Z (pd_var Z 1 (by decide +kernel))) (pgd_name (Z.blk _) 2 (by decide +kernel)) (ptsd_nil) (pd_call (Z.blk _) (c__law_part_text T) (by omega) (pad_cons (pd_var (Z.blk _) 2 (by decide +kernel)) (pad_nil)) (by decide +kernel)) (by decide +kernel) (by decide +kernel)) Z) (pd_str))))
abbrev N__law_read_back : List Str := ["it", "parts"]
theorem sc__law_read_back : FnScope N__law_read_back ["it"] (defScope s__law_read_back) := ⟨rfl, rfl, rfl, by decide +kernel, rfl, by decide +kernel, by decide +kernel⟩
def b__law_read_back : B1 := sSeq (sAsg (gN 1) (rCall 1 (m__law_flat 4) (aCons (rVar 0) (aNil)))) (sRet (rIf (tVal (rE2 fEq (rA fLen (aCons (rVar 1) (aNil))) (rC (.int 1)))) (rE2 fIx (rVar 1) (rC (.int 0))) (rA mkTup (aCons (rC (.str "all")) (aCons (rA fTuple (aCons (rVar 1) (aNil))) (aNil))))))
def m__law_read_back : List PyData → Option PyData := runB 2 b__law_read_back
theorem c__law_read_back (T : Tp K w mg) : Cal P w K mg base 5 "_law_read_back" 1 m__law_read_back := cal_of (k := 4) (ps := ["it"]) (nN := 2) (b := b__law_read_back) T.f__law_read_back sc__law_read_back rfl rfl (fun _ _ _ _ _ _ us hl => match us, hl with | [_], _ => rfl) fun f Z =>
  pss1_cons (ps1_set Z 1 (pd_call Z (c__law_flat T 4) (by omega) (pad_cons (pd_var Z 0 (by decide +kernel)) (pad_nil)) (by decide +kernel)) (by decide +kernel)) (pss1_one (ps1_ret (pd_if (ptd_cmp (zEq Z) o2_eq (pd_cb Z (zLen Z) oc_len T.n_len (by decide +kernel) (pad_cons (pd_var Z 1 (by decide +kernel)) (pad_nil)) (by decide +kernel)) (pd_int) (by rfl)) (pd_ix (zIx Z) o2_ix (pd_var Z 1 (by decide +kernel)) (pd_int)) (pd_tup (pad_cons (pd_str) (pad_cons (pd_ct Z (zTuple Z) oc_tuple T.n_tuple (by decide +kernel) (pad_cons (pd_var Z 1 (by decide +kernel)) (pad_nil)) (by decide +kernel)) (pad_nil)))))))
abbrev N__law_sight_text : List Str := ["it", "one"]
theorem sc__law_sight_text : FnScope N__law_sight_text ["it"] (defScope s__law_sight_text) := ⟨rfl, rfl, rfl, by decide +kernel, rfl, by decide +kernel, by decide +kernel⟩
def b__law_sight_text : B1 := sRet (rE2 fJoin (rC (.str " ")) (rE2 fAdd (rA mkLst (aCons (rE2 fIx (rVar 0) (rC (.int 0))) (aNil))) (rLc (aTup (rCut (rVar 0) (oSome (rC (.int 1))) (oNone))) (gN 1) (tTrue) (rIf (tVal (rE2 fEq (rE2 fIx (rVar 0) (rC (.int 0))) (rC (.str "emits")))) (rVar 1) (rCall 1 m__law_event (aCons (rVar 1) (aNil)))) [1])))
def m__law_sight_text : List PyData → Option PyData := runB 2 b__law_sight_text
theorem c__law_sight_text (T : Tp K w mg) : Cal P w K mg base 2 "_law_sight_text" 1 m__law_sight_text := cal_of (k := 1) (ps := ["it"]) (nN := 2) (b := b__law_sight_text) T.f__law_sight_text sc__law_sight_text rfl rfl (fun _ _ _ _ _ _ us hl => match us, hl with | [_], _ => rfl) fun f Z =>
  pss1_one (ps1_ret (pd_join (pd_str) (pd_bin (fun _ _ => op_addA) o2_addA (pd_lst (pad_cons (pd_ix (zIx Z) o2_ix (pd_var Z 0 (by decide +kernel)) (pd_int)) (pad_nil))) (pd_lc Z [("one", 1)] (tgAt_n 1) (pid_tup Z (pd_slice Z (pd_var Z 0 (by decide +kernel)) (pod_some (pd_int)) (pod_none))) (pgd_name (Z.blk _) 1 (by decide +kernel)) (ptsd_nil) (pd_if (ptd_cmp (zEq (Z.blk _)) o2_eq (pd_ix (zIx (Z.blk _)) o2_ix (pd_var (Z.blk _) 0 (by decide +kernel)) (pd_int)) (pd_str) (by rfl)) (pd_var (Z.blk _) 1 (by decide +kernel)) (pd_call (Z.blk _) (c__law_event T) (by omega) (pad_cons (pd_var (Z.blk _) 1 (by decide +kernel)) (pad_nil)) (by decide +kernel))) (by decide +kernel) (by decide +kernel))) Z))
abbrev N__law_less : List Str := ["one", "other", "near", "far", "number"]
theorem sc__law_less : FnScope N__law_less ["one", "other"] (defScope s__law_less) := ⟨rfl, rfl, rfl, by decide +kernel, rfl, by decide +kernel, by decide +kernel⟩
def b__law_less : B1 := sSeq (sAsg (gL [2, 3]) (rLc (aTup (rA mkTup (aCons (rVar 0) (aCons (rVar 1) (aNil))))) (gN 4) (tTrue) (rIf (tVal (rE1 (fIsi "tuple") (rVar 4))) (rVar 4) (rA mkTup (aCons (rVar 4) (aCons (rC (.int 1)) (aNil))))) [4])) (sRet (rE2 fLt (rE2 fMul (rE2 fIx (rVar 2) (rC (.int 0))) (rE2 fIx (rVar 3) (rC (.int 1)))) (rE2 fMul (rE2 fIx (rVar 3) (rC (.int 0))) (rE2 fIx (rVar 2) (rC (.int 1))))))
def m__law_less : List PyData → Option PyData := runB 5 b__law_less
theorem c__law_less (T : Tp K w mg) : Cal P w K mg base 1 "_law_less" 2 m__law_less := cal_of (k := 0) (ps := ["one", "other"]) (nN := 5) (b := b__law_less) T.f__law_less sc__law_less rfl rfl (fun _ _ _ _ _ _ us hl => match us, hl with | [_, _], _ => rfl) fun f Z =>
  pss1_cons (ps1_asg (pgd_lst Z (pgsd_cons Z 2 (by decide +kernel) (pgsd_cons Z 3 (by decide +kernel) (pgsd_nil)))) (pd_lc Z [("number", 4)] (tgAt_n 4) (pid_tup Z (pd_tup (pad_cons (pd_var Z 0 (by decide +kernel)) (pad_cons (pd_var Z 1 (by decide +kernel)) (pad_nil))))) (pgd_name (Z.blk _) 4 (by decide +kernel)) (ptsd_nil) (pd_if (ptd_val (pd_isi (Z.blk _) ty_tuple (pd_var (Z.blk _) 4 (by decide +kernel)) T.n_isinstance T.n_tuple (by decide +kernel) (by decide +kernel) (by decide +kernel))) (pd_var (Z.blk _) 4 (by decide +kernel)) (pd_tup (pad_cons (pd_var (Z.blk _) 4 (by decide +kernel)) (pad_cons (pd_int) (pad_nil))))) (by decide +kernel) (by decide +kernel))) (pss1_one (ps1_ret (pd_cmp (fun _ _ => op_lt) o2_lt (pd_bin (fun _ _ => op_mul) o2_mul (pd_ix (zIx Z) o2_ix (pd_var Z 2 (by decide +kernel)) (pd_int)) (pd_ix (zIx Z) o2_ix (pd_var Z 3 (by decide +kernel)) (pd_int))) (pd_bin (fun _ _ => op_mul) o2_mul (pd_ix (zIx Z) o2_ix (pd_var Z 3 (by decide +kernel)) (pd_int)) (pd_ix (zIx Z) o2_ix (pd_var Z 2 (by decide +kernel)) (pd_int))) (by rfl))))
abbrev N__law_measure_text : List Str := ["it", "name", "number"]
theorem sc__law_measure_text : FnScope N__law_measure_text ["it"] (defScope s__law_measure_text) := ⟨rfl, rfl, rfl, by decide +kernel, rfl, by decide +kernel, by decide +kernel⟩
def b__law_measure_text : B1 := sRet (rE2 fJoin (rC (.str " ")) (rLc (aTup (rVar 0)) (gT [1, 2]) (tTrue) (rE2 fAdd (rE2 fAdd (rCall 1 m__law_shown (aCons (rVar 2) (aNil))) (rC (.str "*"))) (rCall 1 m__law_event (aCons (rVar 1) (aNil)))) [1, 2]))
def m__law_measure_text : List PyData → Option PyData := runB 3 b__law_measure_text
theorem c__law_measure_text (T : Tp K w mg) : Cal P w K mg base 2 "_law_measure_text" 1 m__law_measure_text := cal_of (k := 1) (ps := ["it"]) (nN := 3) (b := b__law_measure_text) T.f__law_measure_text sc__law_measure_text rfl rfl (fun _ _ _ _ _ _ us hl => match us, hl with | [_], _ => rfl) fun f Z =>
  pss1_one (ps1_ret (pd_join (pd_str) (pd_lc Z [("name", 1), ("number", 2)] (tgAt_t [1, 2]) (pid_tup Z (pd_var Z 0 (by decide +kernel))) (pgd_tup (Z.blk _) (pgsd_cons (Z.blk _) 1 (by decide +kernel) (pgsd_cons (Z.blk _) 2 (by decide +kernel) (pgsd_nil)))) (ptsd_nil) (pd_bin (fun _ _ => op_addA) o2_addA (pd_bin (fun _ _ => op_addA) o2_addA (pd_call (Z.blk _) (c__law_shown T) (by omega) (pad_cons (pd_var (Z.blk _) 2 (by decide +kernel)) (pad_nil)) (by decide +kernel)) (pd_str)) (pd_call (Z.blk _) (c__law_event T) (by omega) (pad_cons (pd_var (Z.blk _) 1 (by decide +kernel)) (pad_nil)) (by decide +kernel))) (by decide +kernel) (by decide +kernel)) Z))
abbrev N__law_box_text : List Str := ["it", "v", "low", "high"]
theorem sc__law_box_text : FnScope N__law_box_text ["it"] (defScope s__law_box_text) := ⟨rfl, rfl, rfl, by decide +kernel, rfl, by decide +kernel, by decide +kernel⟩
def b__law_box_text : B1 := sRet (rE2 fJoin (rC (.str " ")) (rLc (aTup (rVar 0)) (gT [1, 2, 3]) (tTrue) (rE2 fAdd (rE2 fAdd (rE2 fAdd (rE2 fAdd (rVar 1) (rC (.str "="))) (rCall 1 m__law_shown (aCons (rVar 2) (aNil)))) (rC (.str ":"))) (rCall 1 m__law_shown (aCons (rVar 3) (aNil)))) [1, 2, 3]))
def m__law_box_text : List PyData → Option PyData := runB 4 b__law_box_text
theorem c__law_box_text (T : Tp K w mg) : Cal P w K mg base 2 "_law_box_text" 1 m__law_box_text := cal_of (k := 1) (ps := ["it"]) (nN := 4) (b := b__law_box_text) T.f__law_box_text sc__law_box_text rfl rfl (fun _ _ _ _ _ _ us hl => match us, hl with | [_], _ => rfl) fun f Z =>
  pss1_one (ps1_ret (pd_join (pd_str) (pd_lc Z [("v", 1), ("low", 2), ("high", 3)] (tgAt_t [1, 2, 3]) (pid_tup Z (pd_var Z 0 (by decide +kernel))) (pgd_tup (Z.blk _) (pgsd_cons (Z.blk _) 1 (by decide +kernel) (pgsd_cons (Z.blk _) 2 (by decide +kernel) (pgsd_cons (Z.blk _) 3 (by decide +kernel) (pgsd_nil))))) (ptsd_nil) (pd_bin (fun _ _ => op_addA) o2_addA (pd_bin (fun _ _ => op_addA) o2_addA (pd_bin (fun _ _ => op_addA) o2_addA (pd_bin (fun _ _ => op_addA) o2_addA (pd_var (Z.blk _) 1 (by decide +kernel)) (pd_str)) (pd_call (Z.blk _) (c__law_shown T) (by omega) (pad_cons (pd_var (Z.blk _) 2 (by decide +kernel)) (pad_nil)) (by decide +kernel))) (pd_str)) (pd_call (Z.blk _) (c__law_shown T) (by omega) (pad_cons (pd_var (Z.blk _) 3 (by decide +kernel)) (pad_nil)) (by decide +kernel))) (by decide +kernel) (by decide +kernel)) Z))
end
end K73

set_option maxHeartbeats 2000000
namespace K73
open PySem PySem.Spec PyProof.Rows L2 Pd
section
variable {P : Program} {w : World} {K : PySem.W.Frag} {mg : Str → Option Value} {base : Heap} {Cl : Addr}
abbrev NM_starts : List Str := ["self", "word"]
theorem scM_starts : FnScope NM_starts ["self", "word"] (defScope s_LineReader_starts) := ⟨rfl, rfl, rfl, by decide +kernel, rfl, by decide +kernel, by decide +kernel⟩
def bM_starts : BN RdS := nRet (nE2 fEq (nCut (nText) (nPlace) (nE2 fAdd (nPlace) (nL (rA fLen (aCons (rVar 1) (aNil)))))) (nL (rVar 1)))
def mM_starts : MN RdS := runN 2 bM_starts
theorem cM_starts (T : Tp K w mg) (Rd : Rdr K mg Cl) : CalM P w K mg base Cl 1 "starts" 1 mM_starts := calM_of (k := 0) (ps := ["self", "word"]) (nN := 2) (b := bM_starts) Rd.m_starts scM_starts rfl rfl (fun _ _ _ _ _ _ us hl => match us, hl with | [_, _], _ => rfl) fun f Z =>
  psn_one (psn_ret (pn_cmp (zEq Z) o2_eq (pn_slice Z (pn_text Z Rd.rc (by decide +kernel)) (pn_place Z Rd.rc (by decide +kernel)) (pn_bin (fun _ _ => op_addA) o2_addA (pn_place Z Rd.rc (by decide +kernel)) (pn_lift (pd_cb Z (zLen Z) oc_len T.n_len (by decide +kernel) (pad_cons (pd_var Z 1 (by decide +kernel)) (pad_nil)) (by decide +kernel))))) (pn_lift (pd_var Z 1 (by decide +kernel))) (by rfl)))
abbrev NM_take : List Str := ["self", "word"]
theorem scM_take : FnScope NM_take ["self", "word"] (defScope s_LineReader_take) := ⟨rfl, rfl, rfl, by decide +kernel, rfl, by decide +kernel, by decide +kernel⟩
def bM_take : BN RdS := nSeq (nIfS (nNot (nVal (nCall 1 mM_starts (nAL (aCons (rVar 1) (aNil)))))) (nNever) (nNext)) (nMove (nL (rA fLen (aCons (rVar 1) (aNil)))))
def mM_take : MN RdS := runN 2 bM_take
theorem cM_take (T : Tp K w mg) (Rd : Rdr K mg Cl) : CalM P w K mg base Cl 2 "take" 1 mM_take := calM_of (k := 1) (ps := ["self", "word"]) (nN := 2) (b := bM_take) Rd.m_take scM_take rfl rfl (fun _ _ _ _ _ _ us hl => match us, hl with | [_, _], _ => rfl) fun f Z =>
  psn_cons (psn_if (ptn_not (ptn_val (pn_meth Z Rd.rc (cM_starts T Rd) (by omega) (pan_lift (pad_cons (pd_var Z 1 (by decide +kernel)) (pad_nil))) (by decide +kernel) (by decide +kernel)))) (psn_one (psn_never)) (psn_nil)) (psn_one (psn_move Z Rd.rc (by decide +kernel) (pn_lift (pd_cb Z (zLen Z) oc_len T.n_len (by decide +kernel) (pad_cons (pd_var Z 1 (by decide +kernel)) (pad_nil)) (by decide +kernel)))))
abbrev NM_take_one : List Str := ["self", "words", "word"]
theorem scM_take_one : FnScope NM_take_one ["self", "words"] (defScope s_LineReader_take_one) := ⟨rfl, rfl, rfl, by decide +kernel, rfl, by decide +kernel, by decide +kernel⟩
def bM_take_one : BN RdS := nSeq (nFor (nAL (aList (rVar 1))) (gN 2) (nIfS (nVal (nCall 1 mM_starts (nAL (aCons (rVar 2) (aNil))))) (nSeq (nDrop (nCall 1 mM_take (nAL (aCons (rVar 2) (aNil))))) (nRet (nL (rVar 2)))) (nNext))) (nNever)
def mM_take_one : MN RdS := runN 3 bM_take_one
theorem cM_take_one (T : Tp K w mg) (Rd : Rdr K mg Cl) : CalM P w K mg base Cl 3 "take_one" 1 mM_take_one := calM_of (k := 2) (ps := ["self", "words"]) (nN := 3) (b := bM_take_one) Rd.m_take_one scM_take_one rfl rfl (fun _ _ _ _ _ _ us hl => match us, hl with | [_, _], _ => rfl) fun f Z =>
  psn_cons (psn_for Z (offI_of (tgAt_n 2) (by decide)) (pin_list Z (pd_var Z 1 (by decide +kernel))) (pgd_name Z 2 (by decide +kernel)) (psn_one (psn_if (ptn_val (pn_meth Z Rd.rc (cM_starts T Rd) (by omega) (pan_lift (pad_cons (pd_var Z 2 (by decide +kernel)) (pad_nil))) (by decide +kernel) (by decide +kernel))) (psn_cons (psn_expr (pn_meth Z Rd.rc (cM_take T Rd) (by omega) (pan_lift (pad_cons (pd_var Z 2 (by decide +kernel)) (pad_nil))) (by decide +kernel) (by decide +kernel))) (psn_one (psn_ret (pn_lift (pd_var Z 2 (by decide +kernel)))))) (psn_nil)))) (psn_one (psn_never))
abbrev NM_take_run : List Str := ["self", "signs", "first"]
theorem scM_take_run : FnScope NM_take_run ["self", "signs"] (defScope s_LineReader_take_run) := ⟨rfl, rfl, rfl, by decide +kernel, rfl, by decide +kernel, by decide +kernel⟩
def bM_take_run : BN RdS := nSeq (nAsg (gN 2) (nPlace)) (nSeq (whN (nAnd (nVal (nE2 fLt (nPlace) (nA fLen (nCons (nText) (nNil))))) (nVal (nE2 (fIn false) (nE2 fIx (nText) (nPlace)) (nL (rVar 1))))) (nMove (nL (rC (.int 1)))) 100) (nRet (nCut (nText) (nL (rVar 2)) (nPlace))))
def mM_take_run : MN RdS := runN 3 bM_take_run
theorem cM_take_run (T : Tp K w mg) (Rd : Rdr K mg Cl) : CalM P w K mg base Cl 1 "take_run" 1 mM_take_run := calM_of (k := 0) (ps := ["self", "signs"]) (nN := 3) (b := bM_take_run) Rd.m_take_run scM_take_run rfl rfl (fun _ _ _ _ _ _ us hl => match us, hl with | [_, _], _ => rfl) fun f Z =>
  psn_cons (psn_set Z 2 (by decide) (pn_place Z Rd.rc (by decide +kernel)) (by decide +kernel)) (psn_cons (psn_while Z 100 (PWn.pt (pwn_and (ptn_cmp (fun _ _ => op_lt) o2_lt (pn_place Z Rd.rc (by decide +kernel)) (pn_cb Z (zLen Z) oc_len T.n_len (by decide +kernel) (pan_cons (pn_text Z Rd.rc (by decide +kernel)) (pan_nil)) (by decide +kernel)) (by rfl)) (pwn_and1 (ptn_cmp (zIn Z) (o2_inA false) (pn_ix (zIx Z) o2_ix (pn_text Z Rd.rc (by decide +kernel)) (pn_place Z Rd.rc (by decide +kernel))) (pn_lift (pd_var Z 1 (by decide +kernel))) (by rfl))))) (psn_one (psn_move Z Rd.rc (by decide +kernel) (pn_lift (pd_int))))) (psn_one (psn_ret (pn_slice Z (pn_text Z Rd.rc (by decide +kernel)) (pn_lift (pd_var Z 2 (by decide +kernel))) (pn_place Z Rd.rc (by decide +kernel))))))
abbrev NM_take_end : List Str := ["self"]
theorem scM_take_end : FnScope NM_take_end ["self"] (defScope s_LineReader_take_end) := ⟨rfl, rfl, rfl, by decide +kernel, rfl, by decide +kernel, by decide +kernel⟩
def bM_take_end : BN RdS := nIfS (nVal (nE2 fNe (nPlace) (nA fLen (nCons (nText) (nNil))))) (nNever) (nNext)
def mM_take_end : MN RdS := runN 1 bM_take_end
theorem cM_take_end (T : Tp K w mg) (Rd : Rdr K mg Cl) : CalM P w K mg base Cl 1 "take_end" 0 mM_take_end := calM_of (k := 0) (ps := ["self"]) (nN := 1) (b := bM_take_end) Rd.m_take_end scM_take_end rfl rfl (fun _ _ _ _ _ _ us hl => match us, hl with | [_], _ => rfl) fun f Z =>
  psn_one (psn_if (ptn_cmp (zNe Z) o2_ne (pn_place Z Rd.rc (by decide +kernel)) (pn_cb Z (zLen Z) oc_len T.n_len (by decide +kernel) (pan_cons (pn_text Z Rd.rc (by decide +kernel)) (pan_nil)) (by decide +kernel)) (by rfl)) (psn_one (psn_never)) (psn_nil))
abbrev NM_take_name : List Str := ["self", "found"]
theorem scM_take_name : FnScope NM_take_name ["self"] (defScope s_LineReader_take_name) := ⟨rfl, rfl, rfl, by decide +kernel, rfl, by decide +kernel, by decide +kernel⟩
def bM_take_name : BN RdS := nSeq (nAsg (gN 1) (nCall 1 mM_take_run (nAL (aCons (rC (.str "abcdefghijklmnopqrstuvwxyz")) (aNil))))) (nSeq (nIfS (nTL (tNotD (tVal (rCall 1 m_is_name (aCons (rVar 1) (aNil)))))) (nNever) (nNext)) (nRet (nL (rVar 1))))
def mM_take_name : MN RdS := runN 2 bM_take_name
theorem cM_take_name (T : Tp K w mg) (Rd : Rdr K mg Cl) : CalM P w K mg base Cl 2 "take_name" 0 mM_take_name := calM_of (k := 1) (ps := ["self"]) (nN := 2) (b := bM_take_name) Rd.m_take_name scM_take_name rfl rfl (fun _ _ _ _ _ _ us hl => match us, hl with | [_], _ => rfl) fun f Z =>
  psn_cons (psn_set Z 1 (by decide) (pn_meth Z Rd.rc (cM_take_run T Rd) (by omega) (pan_lift (pad_cons (pd_gd Z T.g_LETTERS (by decide +kernel)) (pad_nil))) (by decide +kernel) (by decide +kernel)) (by decide +kernel)) (psn_cons (psn_if (ptn_lift (ptd_not (ptd_val (pd_call Z (c_is_name T) (by omega) (pad_cons (pd_var Z 1 (by decide +kernel)) (pad_nil)) (by decide +kernel))))) (psn_one (psn_never)) (psn_nil)) (psn_one (psn_ret (pn_lift (pd_var Z 1 (by decide +kernel))))))
abbrev NM_take_integer : List Str := ["self", "sign", "digits"]
theorem scM_take_integer : FnScope NM_take_integer ["self"] (defScope s_LineReader_take_integer) := ⟨rfl, rfl, rfl, by decide +kernel, rfl, by decide +kernel, by decide +kernel⟩
def bM_take_integer : BN RdS := nSeq (nAsg (gN 1) (nIf (nVal (nCall 1 mM_starts (nAL (aCons (rC (.str "-")) (aNil))))) (nL (rC (.str "-"))) (nL (rC (.str ""))))) (nSeq (nDrop (nCall 1 mM_take (nAL (aCons (rVar 1) (aNil))))) (nSeq (nAsg (gN 2) (nCall 1 mM_take_run (nAL (aCons (rC (.str "0123456789")) (aNil))))) (nSeq (nIfS (nTL (tOrD (tNotD (tVal (rChain fLe fLe (rC (.int 1)) (rA fLen (aCons (rVar 2) (aNil))) (rC (.int 7))))) (tAndD (tVal (rE2 fEq (rE2 fIx (rVar 2) (rC (.int 0))) (rC (.str "0")))) (tVal (rE2 fNe (rE2 fAdd (rVar 1) (rVar 2)) (rC (.str "0"))))))) (nNever) (nNext)) (nRet (nL (rA fInt (aCons (rE2 fAdd (rVar 1) (rVar 2)) (aNil))))))))
def mM_take_integer : MN RdS := runN 3 bM_take_integer
theorem cM_take_integer (T : Tp K w mg) (Rd : Rdr K mg Cl) : CalM P w K mg base Cl 3 "take_integer" 0 mM_take_integer := calM_of (k := 2) (ps := ["self"]) (nN := 3) (b := bM_take_integer) Rd.m_take_integer scM_take_integer rfl rfl (fun _ _ _ _ _ _ us hl => match us, hl with | [_], _ => rfl) fun f Z =>
  psn_cons (psn_set Z 1 (by decide) (pn_if (ptn_val (pn_meth Z Rd.rc (cM_starts T Rd) (by omega) (pan_lift (pad_cons (pd_str) (pad_nil))) (by decide +kernel) (by decide +kernel))) (pn_lift (pd_str)) (pn_lift (pd_str))) (by decide +kernel)) (psn_cons (psn_expr (pn_meth Z Rd.rc (cM_take T Rd) (by omega) (pan_lift (pad_cons (pd_var Z 1 (by decide +kernel)) (pad_nil))) (by decide +kernel) (by decide +kernel))) (psn_cons (psn_set Z 2 (by decide) (pn_meth Z Rd.rc (cM_take_run T Rd) (by omega) (pan_lift (pad_cons (pd_gd Z T.g_DIGITS_programtexts (by decide +kernel)) (pad_nil))) (by decide +kernel) (by decide +kernel)) (by decide +kernel)) (psn_cons (psn_if (ptn_lift (PWd.pt (pwd_or (ptd_not (ptd_chain (fun _ _ => op_le) (fun _ _ => op_le) o2_le o2_le (pd_int) (pd_cb Z (zLen Z) oc_len T.n_len (by decide +kernel) (pad_cons (pd_var Z 2 (by decide +kernel)) (pad_nil)) (by decide +kernel)) (pd_gd Z T.g_MOST_DIGITS (by decide +kernel)))) (pwd_or1 (PWd.pt (pwd_and (ptd_cmp (zEq Z) o2_eq (pd_ix (zIx Z) o2_ix (pd_var Z 2 (by decide +kernel)) (pd_int)) (pd_str) (by rfl)) (pwd_and1 (ptd_cmp (zNe Z) o2_ne (pd_bin (fun _ _ => op_addA) o2_addA (pd_var Z 1 (by decide +kernel)) (pd_var Z 2 (by decide +kernel))) (pd_str) (by rfl))))))))) (psn_one (psn_never)) (psn_nil)) (psn_one (psn_ret (pn_lift (pd_ct Z (fun _ _ => call_intA) oc_int T.n_int (by decide +kernel) (pad_cons (pd_bin (fun _ _ => op_addA) o2_addA (pd_var Z 1 (by decide +kernel)) (pd_var Z 2 (by decide +kernel))) (pad_nil)) (by decide +kernel))))))))
abbrev NM_take_expression : List Str := ["self", "depth"]
theorem scM_take_expression : FnScope NM_take_expression ["self", "depth"] (defScope s_LineReader_take_expression) := ⟨rfl, rfl, rfl, by decide +kernel, rfl, by decide +kernel, by decide +kernel⟩
abbrev NM_take_pair : List Str := ["self", "known", "depth", "one", "sign", "other", "word", "written"]
theorem scM_take_pair : FnScope NM_take_pair ["self", "known", "depth"] (defScope s_LineReader_take_pair) := ⟨rfl, rfl, rfl, by decide +kernel, rfl, by decide +kernel, by decide +kernel⟩
def bM_take_expression (mp : MN RdS) : BN RdS := nSeq (nIfS (nVal (nCall 1 mM_starts (nAL (aCons (rC (.str "(")) (aNil))))) (nRet (nCall 1 mp (nAL (aCons (rE2 fAdd (rVar 1) (rC (.int 1))) (aNil))))) (nNext)) (nSeq (nIfS (nVal (nCall 1 mM_starts (nAL (aCons (rC (.str "@")) (aNil))))) (nSeq (nDrop (nCall 1 mM_take (nAL (aCons (rC (.str "@")) (aNil))))) (nRet (nA mkTup (nCons (nL (rC (.str "cell"))) (nCons (nCall 0 mM_take_name nNil) (nNil)))))) (nNext)) (nSeq (nIfS (nVal (nE2 (fIn false) (nCut (nText) (nPlace) (nE2 fAdd (nPlace) (nL (rC (.int 1))))) (nL (rC (.str "abcdefghijklmnopqrstuvwxyz"))))) (nRet (nA mkTup (nCons (nL (rC (.str "variable"))) (nCons (nCall 0 mM_take_name nNil) (nNil))))) (nNext)) (nRet (nCall 0 mM_take_integer nNil))))
def bM_take_pair (me : MN RdS) : BN RdS := nSeq (nIfS (nTL (tVal (rE2 fGt (rVar 2) (rC (.int 60))))) (nNever) (nNext)) (nSeq (nDrop (nCall 1 mM_take (nAL (aCons (rC (.str "(")) (aNil))))) (nSeq (nAsg (gN 3) (nCall 1 me (nAL (aCons (rVar 2) (aNil))))) (nSeq (nAsg (gN 4) (nCall 1 mM_take_one (nAL (aCons (rDkVals 1) (aNil))))) (nSeq (nIfS (nTL (tAndD (tVal (rE2 fEq (rVar 4) (rC (.str " * ")))) (tNotD (tVal (rE1 (fIsi "int") (rVar 3)))))) (nNever) (nNext)) (nSeq (nAsg (gN 5) (nCall 1 me (nAL (aCons (rVar 2) (aNil))))) (nSeq (nDrop (nCall 1 mM_take (nAL (aCons (rC (.str ")")) (aNil))))) (nSeq (nAsg (gN 6) (nL (rE2 fIx (rItems 1 (gT [6, 7]) (tVal (rE2 fEq (rVar 7) (rVar 4))) (rVar 6) [6, 7]) (rC (.int 0))))) (nRet (nL (rA mkTup (aCons (rVar 6) (aCons (rVar 3) (aCons (rVar 5) (aNil))))))))))))))
def mEP : Nat → MN RdS × MN RdS
  | 0 => (fun _ _ _ => False, fun _ _ _ => False)
  | n + 1 => (runN 2 (bM_take_expression (mEP n).2), runND tSIGNS 8 (bM_take_pair (mEP n).1))
theorem cM_take_expression (T : Tp K w mg) (Rd : Rdr K mg Cl) (n : Nat) (mp : MN RdS) (ihp : CalMD P w K mg base Cl tSIGNS (3 + n) "take_pair" 1 mp) : CalM P w K mg base Cl (3 + n + 1) "take_expression" 1 (runN 2 (bM_take_expression mp)) := calM_of (k := 3 + n) (ps := ["self", "depth"]) (nN := 2) (b := bM_take_expression mp) Rd.m_take_expression scM_take_expression rfl rfl (fun _ _ _ _ _ _ us hl => match us, hl with | [_, _], _ => rfl) fun f Z =>
  psn_cons (psn_if (ptn_val (pn_meth Z Rd.rc (cM_starts T Rd) (by omega) (pan_lift (pad_cons (pd_str) (pad_nil))) (by decide +kernel) (by decide +kernel))) (psn_one (psn_ret (pn_methD Z Rd.rc ihp (by omega) T.t_SIGNS2 T.n_dict (pan_lift (pad_cons (pd_bin (fun _ _ => op_addA) o2_addA (pd_var Z 1 (by decide +kernel)) (pd_int)) (pad_nil))) (by decide +kernel) (by decide +kernel) (by decide +kernel) (by decide +kernel)))) (psn_nil)) (psn_cons (psn_if (ptn_val (pn_meth Z Rd.rc (cM_starts T Rd) (by omega) (pan_lift (pad_cons (pd_str) (pad_nil))) (by decide +kernel) (by decide +kernel))) (psn_cons (psn_expr (pn_meth Z Rd.rc (cM_take T Rd) (by omega) (pan_lift (pad_cons (pd_str) (pad_nil))) (by decide +kernel) (by decide +kernel))) (psn_one (psn_ret (pn_tup (pan_cons (pn_lift (pd_str)) (pan_cons (pn_meth0 Z Rd.rc (cM_take_name T Rd) (by omega) (by decide +kernel) (by decide +kernel)) (pan_nil))))))) (psn_nil)) (psn_cons (psn_if (ptn_cmp (zIn Z) (o2_inA false) (pn_slice Z (pn_text Z Rd.rc (by decide +kernel)) (pn_place Z Rd.rc (by decide +kernel)) (pn_bin (fun _ _ => op_addA) o2_addA (pn_place Z Rd.rc (by decide +kernel)) (pn_lift (pd_int)))) (pn_lift (pd_gd Z T.g_LETTERS (by decide +kernel))) (by rfl)) (psn_one (psn_ret (pn_tup (pan_cons (pn_lift (pd_str)) (pan_cons (pn_meth0 Z Rd.rc (cM_take_name T Rd) (by omega) (by decide +kernel) (by decide +kernel)) (pan_nil)))))) (psn_nil)) (psn_one (psn_ret (pn_meth0 Z Rd.rc (cM_take_integer T Rd) (by omega) (by decide +kernel) (by decide +kernel))))))
theorem cM_take_pair (T : Tp K w mg) (Rd : Rdr K mg Cl) (n : Nat) (me : MN RdS) (ihe : CalM P w K mg base Cl (3 + n) "take_expression" 1 me) : CalMD P w K mg base Cl tSIGNS (3 + n + 1) "take_pair" 1 (runND tSIGNS 8 (bM_take_pair me)) := calMD_of (k := 3 + n) (ps := ["self", "known", "depth"]) (nN := 8) (b := bM_take_pair me) Rd.m_take_pair scM_take_pair rfl rfl (fun _ _ _ _ _ _ us hl => match us, hl with | [_, _, _], _ => rfl) fun f Z =>
  psn_cons (psn_if (ptn_lift (ptd_cmp (fun _ _ => op_gt) o2_gt (pd_var Z 2 (by decide +kernel)) (pd_gd Z T.g_MOST_PARENTHESES (by decide +kernel)) (by rfl))) (psn_one (psn_never)) (psn_nil)) (psn_cons (psn_expr (pn_meth Z Rd.rc (cM_take T Rd) (by omega) (pan_lift (pad_cons (pd_str) (pad_nil))) (by decide +kernel) (by decide +kernel))) (psn_cons (psn_set Z 3 (by decide) (pn_meth Z Rd.rc ihe (by omega) (pan_lift (pad_cons (pd_var Z 2 (by decide +kernel)) (pad_nil))) (by decide +kernel) (by decide +kernel)) (by decide +kernel)) (psn_cons (psn_set Z 4 (by decide) (pn_meth Z Rd.rc (cM_take_one T Rd) (by omega) (pan_lift (pad_cons (pd_dkVals Z 1 (by decide +kernel) T.n_list (by decide +kernel)) (pad_nil))) (by decide +kernel) (by decide +kernel)) (by decide +kernel)) (psn_cons (psn_if (ptn_lift (PWd.pt (pwd_and (ptd_cmp (zEq Z) o2_eq (pd_var Z 4 (by decide +kernel)) (pd_str) (by rfl)) (pwd_and1 (ptd_not (ptd_val (pd_isi Z ty_int (pd_var Z 3 (by decide +kernel)) T.n_isinstance T.n_int (by decide +kernel) (by decide +kernel) (by decide +kernel)))))))) (psn_one (psn_never)) (psn_nil)) (psn_cons (psn_set Z 5 (by decide) (pn_meth Z Rd.rc ihe (by omega) (pan_lift (pad_cons (pd_var Z 2 (by decide +kernel)) (pad_nil))) (by decide +kernel) (by decide +kernel)) (by decide +kernel)) (psn_cons (psn_expr (pn_meth Z Rd.rc (cM_take T Rd) (by omega) (pan_lift (pad_cons (pd_str) (pad_nil))) (by decide +kernel) (by decide +kernel))) (psn_cons (psn_set Z 6 (by decide) (pn_lift (pd_ix (zIx Z) o2_ix (pd_items Z 1 [("word", 6), ("written", 7)] (by decide +kernel) (tgAt_t [6, 7]) (pgd_tup (Z.blk _) (pgsd_cons (Z.blk _) 6 (by decide +kernel) (pgsd_cons (Z.blk _) 7 (by decide +kernel) (pgsd_nil)))) (ptsd_one (ptd_cmp (zEq (Z.blk _)) o2_eq (pd_var (Z.blk _) 7 (by decide +kernel)) (pd_var (Z.blk _) 4 (by decide +kernel)) (by rfl))) (pd_var (Z.blk _) 6 (by decide +kernel)) (by decide +kernel) (by decide +kernel)) (pd_int))) (by decide +kernel)) (psn_one (psn_ret (pn_lift (pd_tup (pad_cons (pd_var Z 6 (by decide +kernel)) (pad_cons (pd_var Z 3 (by decide +kernel)) (pad_cons (pd_var Z 5 (by decide +kernel)) (pad_nil)))))))))))))))
theorem cEP (T : Tp K w mg) (Rd : Rdr K mg Cl) : ∀ n, CalM P w K mg base Cl (3 + n) "take_expression" 1 (mEP n).1 ∧ CalMD P w K mg base Cl tSIGNS (3 + n) "take_pair" 1 (mEP n).2
  | 0 => ⟨calM_zero (ps := ["self", "depth"]) Rd.m_take_expression rfl (fun _ _ _ _ _ _ us hl => match us, hl with | [_, _], _ => rfl), calMD_zero (ps := ["self", "known", "depth"]) Rd.m_take_pair rfl (fun _ _ _ _ _ _ us hl => match us, hl with | [_, _, _], _ => rfl)⟩
  | n + 1 => let ih := cEP T Rd n; ⟨cM_take_expression T Rd n _ ih.2, cM_take_pair T Rd n _ ih.1⟩
end
end K73

set_option maxHeartbeats 2000000
namespace K73
open PySem PySem.Spec PyProof.Rows L2 Pd
section
variable {P : Program} {w : World} {K : PySem.W.Frag} {mg : Str → Option Value} {base : Heap} {Cl : Addr}
/-! ### the reader made -/
def spInit (Cl : Addr) : Sp := fun vs H Q _ => ∃ x dx t, vs = [.ref x, .int 0, .str t] ∧ H x = some (.ins Cl dx []) ∧ ∀ H', (∀ a, a ≠ x → H' a = H a) → H' x = some (.ins Cl dx (rdF ⟨t, 0⟩)) → Q .non H'
abbrev NI : List Str := ["self", "number_of_line", "line_text"]
theorem scI : FnScope NI ["self", "number_of_line", "line_text"] (defScope s_LineReader_init) := ⟨rfl, rfl, rfl, by decide +kernel, rfl, by decide +kernel, by decide +kernel⟩
theorem ok_init (Rd : Rdr K mg Cl) {f : Addr} {fd : FuncData} (F : FunD K "__init__" "LineReader.__init__" (defArgs s_LineReader_init) (defBody s_LineReader_init) (defScope s_LineReader_init) [] [] f fd) : FnOk P w K mg base CX0 1 f fd ["self", "number_of_line", "line_text"] (spInit Cl) := by
  refine F.ok scI (fun vs H Q E h => ?_) (fun cdv A outer s H vs Q E hr h => ⟨tSeq (sFld K (tVar 0) (tVar 1) "number_of_line") (tSeq (sFld K (tVar 0) (tVar 2) "line_text") (sFld K (tVar 0) (tC (.int 0)) "place")), PSs.nox ?_, ?_⟩)
  · obtain ⟨x, dx, t, rfl, _⟩ := h
    rfl
  · exact pss_cons (ps_fld (pv 0) (pv 1) rfl) (pss_cons (ps_fld (pv 0) (pv 2) rfl) (pss_one (ps_fld (pv 0) pe_int rfl)))
  · obtain ⟨x, dx, t, rfl, hx, q⟩ := h
    refine ⟨_, rfl, _, rfl, x, Cl, dx, _, rfl, hx, Rd.rc.cl, Rd.rc.a1, by decide, ?_⟩
    refine ⟨_, rfl, _, rfl, x, Cl, dx, _, rfl, upd_same, Rd.rc.cl, Rd.rc.a2, by show 1 < 1000; decide, ?_⟩
    refine ⟨_, rfl, x, Cl, dx, _, rfl, upd_same, Rd.rc.cl, Rd.rc.a3, by show 2 < 1000; decide, ?_⟩
    refine q _ (fun a ha => ?_) upd_same
    rw [upd_ne ha, upd_ne ha, upd_ne ha]
/-! ### a text read as an expression -/
abbrev NX : List Str := ["text", "reader", "found"]
theorem scX : FnScope NX ["text"] (defScope s_expression_in) := ⟨rfl, rfl, rfl, by decide +kernel, rfl, by decide +kernel, by decide +kernel⟩
def FX : Nat := 12
def bX : BN RdS := nSeq (nAsg (gN 2) (nCall 1 (mEP FX).1 (nAL (aCons (rC (.int 0)) aNil)))) (nSeq (nDrop (nCall 0 mM_take_end nNil)) (nRet (nL (rVar 2))))
/-- t is read as d -/
def Parses (t : Str) (d : PyData) : Prop := bX [some (.vl (.str t)), none, none] ⟨t, 0⟩ fun fl _ => fl = .rt d
def restX : List Stmt := (defBody s_expression_in).tail
theorem w_X (T : Tp K w mg) (Rd : Rdr K mg Cl) {C : Cx → Prop} {k : Nat} (hk : 15 ≤ k) (Z : Fam C P w K mg base NX (defScope s_expression_in) k true) : PSsn C K (rdR Cl) 1 restX bX :=
  psn_cons (psn_set Z 2 (by decide) (pn_meth Z Rd.rc ((cEP T Rd FX).1) (by show 3 + 12 ≤ k; omega) (pan_lift (pad_cons pd_int pad_nil)) (by decide +kernel) (by decide +kernel)) (by decide +kernel))
    (psn_cons (psn_expr (pn_meth0 Z Rd.rc (cM_take_end T Rd) (by omega) (by decide +kernel) (by decide +kernel))) (psn_one (psn_ret (pn_lift (pd_var Z 2 (by decide +kernel))))))
def m_expression_in (pf : Str → Option PyData) : List PyData → Option PyData
  | [.str t] => pf t
  | _ => none
theorem c_expression_in (T : Tp K w mg) (pf : Str → Option PyData) (hp : ∀ t d, pf t = some d → t.length ≤ 16777216 ∧ Parses t d) : Cal P w K mg base 60 "expression_in" 1 (m_expression_in pf) := by
  obtain ⟨f, fd, hm, F⟩ := T.f_expression_in
  obtain ⟨Cl, Rd⟩ := T.rdr
  obtain ⟨fi, fdi, M, Fi⟩ := Rd.mker
  refine ⟨f, fd, ["text"], hm, F.kp, rfl, ?_, F.bindsN (fun _ _ _ _ _ _ us hl => match us, hl with | [_], _ => rfl), FunD.look F⟩
  have bI : Binds K fdi ["self", "number_of_line", "line_text"] [] := Fi.bindsN fun _ _ _ _ _ _ us hl => match us, hl with | [_, _, _], _ => rfl
  obtain ⟨tx, hx, sx⟩ := (w_X T Rd (by decide) (fam_bod (P := P) (w := w) (K := K) (mg := mg) (base := base) (qual := "expression_in") (f := f) (k := 59) (sc := defScope s_expression_in) (N := NX) scX.nd)).ex
  refine F.ok (k := 59) scX (fun vs H Q E h => ?_) (fun cdv A outer s H vs Q E hr h => ⟨tSeq (tAsg (tMake Cl (spInit Cl) [] E0 (tCons (tC (.int 0)) (tCons (tVar 0) tNil))) (gName 1)) tx, PSs.nox ?_, ?_⟩)
  · obtain ⟨F0, ds, d, hl, _, r, _⟩ := h
    rw [r.length, hl]
    rfl
  · exact pss_cons (ps_set (i := 1) scX.nd rfl (Or.inl rfl) (pe_make M (ok_init Rd Fi) (hr.mono (by decide)) rfl Rd.gl bI .nil pass0 (pa_cons pe_int (pa_cons (pv 0) pa_nil)))) (hx _ ⟨cdv, A, outer, s, H, E, hr, rfl⟩)
  · obtain ⟨F0, ds, d, hl, sF, r, e, q⟩ := h
    unfold m_expression_in at e
    split at e
    · rename_i t
      obtain ⟨hz, hpar⟩ := hp t d e
      cases r with
      | cons r1 r2 =>
        cases r2
        cases r1
        refine ⟨_, rfl, fun x dx hx0 hdx0 hne => ?_⟩
        refine ⟨x, dx, t, rfl, upd_same, fun H' hoth hhx => ⟨rfl, ?_⟩⟩
        have sH : Same H H' := fun a o ha => by
          have n1 : a ≠ x := fun z => by subst z; rw [hx0] at ha; cases ha
          have n2 : a ≠ dx := fun z => by subst z; rw [hdx0] at ha; cases ha
          rw [hoth a n1, upd_ne n1, upd_ne n2]
          exact ha
        have hxF : F0 x = none := sF.free hx0
        have st : (rdR Cl).St (x, dx) ⟨t, 0⟩ H' := ⟨hhx, hz⟩
        have RN : RelSN (rdR Cl) (x, dx) 1 K F0 (butD (fun a => a = x) H') F0 H' ((L2.start NX [V.str t]).set 1 (some (.ref x))) [some (.vl (.str t)), none, none] := by
          have no : ∀ {j : Nat} {c : Cell}, ([some (.vl (.str t)), none, none] : Sl)[j]? = some (some c) → j = 0 ∧ c = .vl (.str t) := fun {j c} ej => by
            rcases j with _ | _ | _ | j
            · cases ej; exact ⟨rfl, rfl⟩
            · cases ej
            · cases ej
            · simp at ej
          refine ⟨⟨⟨rfl, sF.trans sH, fun j c ej => ?_, fun j kk d1 d2 a ne e1 e2 => ?_⟩, fun a ha => ?_, fun j d1 a e1 => ?_, rfl, rfl⟩, fun a o e1 => (butD_some e1).2, Gr.refl _ _, fun j d1 a e1 => ?_, fun a d => butD_in d⟩
          · obtain ⟨rfl, rfl⟩ := no ej
            exact ⟨.str t, rfl, .str t⟩
          · cases (no e1).2
          · have : a = x := ha
            rw [this]; exact hxF
          · cases (no e1).2
          · cases (no e1).2
        refine sx (x, dx) F0 _ F0 H' _ _ ⟨t, 0⟩ _ _ RN st hpar fun fl s' hw => ?_
        subst hw
        refine fun v F' H'' sb g f av' st' r' => q v F' H'' (fun a o ha => ?_) ⟨g.1, fun a o ha => ?_⟩ f r'
        · refine sb a o ?_
          have n1 : a ≠ x := fun z => by subst z; rw [hx0] at ha; cases ha
          rw [butD_out (D := fun a => a = x) (a := a) n1]
          exact sH a o ha
        · rcases g.2 a o ha with z | z
          · exact .inl z
          · by_cases n1 : a = x
            · rw [n1]; exact .inr hx0
            · rw [butD_out (D := fun a => a = x) (a := a) n1] at z
              exact .inr (sH.free z)
    · cases e
end
end K73

set_option maxHeartbeats 2000000
namespace K73
open PySem PySem.Spec PyProof.Rows L2 Pd
section
variable {P : Program} {w : World} {K : PySem.W.Frag} {mg : Str → Option Value} {base : Heap}
abbrev N_part_in : List Str := ["text", "words", "task", "told", "word"]
theorem sc_part_in : FnScope N_part_in ["text"] (defScope s_part_in) := ⟨rfl, rfl, rfl, by decide +kernel, rfl, by decide +kernel, by decide +kernel⟩
def b_part_in (pf : Str → Option PyData) : B1 := sSeq (sAsg (gN 1) (rE2 fSplit (rVar 0) (rC (.str " ")))) (sSeq (sIf (tAndD (tVal (rE2 fEq (rE2 fIx (rVar 1) (rC (.int 0))) (rC (.str "ends")))) (tVal (rE2 fGt (rA fLen (aCons (rVar 1) (aNil))) (rC (.int 2))))) (sSeq (sAsg (gN 2) (rCall 1 m_whole_in (aCons (rE2 fIx (rVar 1) (rC (.int 1))) (aNil)))) (sSeq (sDrop (rCall 1 m_must (aCons (rE2 fNotN (rVar 2) (rC .none)) (aNil)))) (sRet (rA mkTup (aCons (rC (.str "ends")) (aCons (rVar 2) (aCons (rCall 1 (m_expression_in pf) (aCons (rE2 fJoin (rC (.str " ")) (rCut (rVar 1) (oSome (rC (.int 2))) (oNone))) (aNil))) (aNil)))))))) (sNext)) (sSeq (sIf (tAndD (tVal (rE2 fEq (rE2 fIx (rVar 1) (rC (.int 0))) (rC (.str "emits")))) (tVal (rE2 (fIn false) (rA fLen (aCons (rVar 1) (aNil))) (rA mkTup (aCons (rC (.int 2)) (aCons (rC (.int 3)) (aNil))))))) (sSeq (sDrop (rCall 1 m_must (aCons (rCall 1 m_is_name (aCons (rE2 fIx (rVar 1) (rC (.int 1))) (aNil))) (aNil)))) (sSeq (sAsg (gN 3) (rIf (tVal (rE2 fEq (rA fLen (aCons (rVar 1) (aNil))) (rC (.int 3)))) (rE2 fSplit (rE2 fIx (rVar 1) (rC (.int 2))) (rC (.str ","))) (rA mkLst (aNil)))) (sRet (rA mkTup (aCons (rC (.str "emits")) (aCons (rE2 fIx (rVar 1) (rC (.int 1))) (aCons (rA fTuple (aCons (rLc (aList (rVar 3)) (gN 4) (tTrue) (rCall 1 m_number_in (aCons (rVar 4) (aNil))) [4]) (aNil))) (aNil)))))))) (sNext)) (sSeq (sDrop (rCall 1 m_must (aCons (rE2 fInTD (rVar 1) (rA mkTup (aCons (rA mkLst (aCons (rC (.str "unblocked")) (aNil))) (aCons (rA mkLst (aCons (rC (.str "faultless")) (aNil))) (aNil))))) (aNil)))) (sRet (rA mkTup (aCons (rE2 fIx (rVar 1) (rC (.int 0))) (aNil)))))))
def m_part_in (pf : Str → Option PyData) : List PyData → Option PyData := runB 5 (b_part_in pf)
theorem c_part_in (T : Tp K w mg) (pf : Str → Option PyData) (hp : ∀ t d, pf t = some d → t.length ≤ 16777216 ∧ Parses t d) : Cal P w K mg base 61 "part_in" 1 (m_part_in pf) := cal_of (k := 60) (ps := ["text"]) (nN := 5) (b := b_part_in pf) T.f_part_in sc_part_in rfl rfl (fun _ _ _ _ _ _ us hl => match us, hl with | [_], _ => rfl) fun f Z =>
  pss1_cons (ps1_set Z 1 (pd_split (pd_var Z 0 (by decide +kernel)) (pd_gd Z T.g_SPACE (by decide +kernel))) (by decide +kernel)) (pss1_cons (ps1_if (PWd.pt (pwd_and (ptd_cmp (zEq Z) o2_eq (pd_ix (zIx Z) o2_ix (pd_var Z 1 (by decide +kernel)) (pd_int)) (pd_str) (by rfl)) (pwd_and1 (ptd_cmp (fun _ _ => op_gt) o2_gt (pd_cb Z (zLen Z) oc_len T.n_len (by decide +kernel) (pad_cons (pd_var Z 1 (by decide +kernel)) (pad_nil)) (by decide +kernel)) (pd_int) (by rfl))))) (pss1_cons (ps1_set Z 2 (pd_call Z (c_whole_in T) (by omega) (pad_cons (pd_ix (zIx Z) o2_ix (pd_var Z 1 (by decide +kernel)) (pd_int)) (pad_nil)) (by decide +kernel)) (by decide +kernel)) (pss1_cons (ps1_expr (pd_call Z (c_must T) (by omega) (pad_cons (pd_cmp (fun _ _ => op_notN) o2_notN (pd_var Z 2 (by decide +kernel)) (pd_non) (by rfl)) (pad_nil)) (by decide +kernel))) (pss1_one (ps1_ret (pd_tup (pad_cons (pd_str) (pad_cons (pd_var Z 2 (by decide +kernel)) (pad_cons (pd_call Z (c_expression_in T pf hp) (by omega) (pad_cons (pd_join (pd_gd Z T.g_SPACE (by decide +kernel)) (pd_slice Z (pd_var Z 1 (by decide +kernel)) (pod_some (pd_int)) (pod_none)) Z) (pad_nil)) (by decide +kernel)) (pad_nil))))))))) (pss1_nil)) (pss1_cons (ps1_if (PWd.pt (pwd_and (ptd_cmp (zEq Z) o2_eq (pd_ix (zIx Z) o2_ix (pd_var Z 1 (by decide +kernel)) (pd_int)) (pd_str) (by rfl)) (pwd_and1 (ptd_cmp (zIn Z) (o2_inA false) (pd_cb Z (zLen Z) oc_len T.n_len (by decide +kernel) (pad_cons (pd_var Z 1 (by decide +kernel)) (pad_nil)) (by decide +kernel)) (pd_tup (pad_cons (pd_int) (pad_cons (pd_int) (pad_nil)))) (by rfl))))) (pss1_cons (ps1_expr (pd_call Z (c_must T) (by omega) (pad_cons (pd_call Z (c_is_name T) (by omega) (pad_cons (pd_ix (zIx Z) o2_ix (pd_var Z 1 (by decide +kernel)) (pd_int)) (pad_nil)) (by decide +kernel)) (pad_nil)) (by decide +kernel))) (pss1_cons (ps1_set Z 3 (pd_if (ptd_cmp (zEq Z) o2_eq (pd_cb Z (zLen Z) oc_len T.n_len (by decide +kernel) (pad_cons (pd_var Z 1 (by decide +kernel)) (pad_nil)) (by decide +kernel)) (pd_int) (by rfl)) (pd_split (pd_ix (zIx Z) o2_ix (pd_var Z 1 (by decide +kernel)) (pd_int)) (pd_gd Z T.g_COMMA (by decide +kernel))) (pd_lst (pad_nil))) (by decide +kernel)) (pss1_one (ps1_ret (pd_tup (pad_cons (pd_str) (pad_cons (pd_ix (zIx Z) o2_ix (pd_var Z 1 (by decide +kernel)) (pd_int)) (pad_cons (pd_ct Z (zTuple Z) oc_tuple T.n_tuple (by decide +kernel) (pad_cons (pd_lc Z [("word", 4)] (tgAt_n 4) (pid_list Z (pd_var Z 3 (by decide +kernel))) (pgd_name (Z.blk _) 4 (by decide +kernel)) (ptsd_nil) (pd_call (Z.blk _) (c_number_in T) (by omega) (pad_cons (pd_var (Z.blk _) 4 (by decide +kernel)) (pad_nil)) (by decide +kernel)) (by decide +kernel) (by decide +kernel)) (pad_nil)) (by decide +kernel)) (pad_nil))))))))) (pss1_nil)) (pss1_cons (ps1_expr (pd_call Z (c_must T) (by omega) (pad_cons (pd_cmp (zInTD Z) o2_inTD (pd_var Z 1 (by decide +kernel)) (pd_tup (pad_cons (pd_lst (pad_cons (pd_str) (pad_nil))) (pad_cons (pd_lst (pad_cons (pd_str) (pad_nil))) (pad_nil)))) (by rfl)) (pad_nil)) (by decide +kernel))) (pss1_one (ps1_ret (pd_tup (pad_cons (pd_ix (zIx Z) o2_ix (pd_var Z 1 (by decide +kernel)) (pd_int)) (pad_nil))))))))
abbrev N_read_requirement : List Str := ["program", "thing", "parts", "found", "text"]
theorem sc_read_requirement : FnScope N_read_requirement ["program", "thing"] (defScope s_read_requirement) := ⟨rfl, rfl, rfl, by decide +kernel, rfl, by decide +kernel, by decide +kernel⟩
def b_read_requirement (pf : Str → Option PyData) : B1 := sSeq (sDrop (rCall 1 m_must (aCons (rE1 (fIsi "str") (rVar 1)) (aNil)))) (sSeq (sAsg (gN 2) (rIf (tVal (rE2 fNe (rVar 1) (rC (.str "all")))) (rLc (aList (rE2 fSplit (rVar 1) (rC (.str "; ")))) (gN 4) (tTrue) (rCall 1 (m_part_in pf) (aCons (rVar 4) (aNil))) [4]) (rA mkLst (aNil)))) (sSeq (sAsg (gN 3) (rIf (tVal (rE2 fEq (rA fLen (aCons (rVar 2) (aNil))) (rC (.int 1)))) (rE2 fIx (rVar 2) (rC (.int 0))) (rA mkTup (aCons (rC (.str "all")) (aCons (rA fTuple (aCons (rVar 2) (aNil))) (aNil)))))) (sSeq (sIf (tNotD (tVal (rCall 2 m_is_requirement (aCons (rVar 0) (aCons (rVar 3) (aNil)))))) (sNever) (sNext)) (sRet (rVar 3)))))
def m_read_requirement (pf : Str → Option PyData) : List PyData → Option PyData := runB 5 (b_read_requirement pf)
theorem ck_read_requirement (T : Tp K w mg) (pf : Str → Option PyData) (hp : ∀ t d, pf t = some d → t.length ≤ 16777216 ∧ Parses t d) : CalP P w K mg base 62 "read_requirement" ["program", "thing"] (m_read_requirement pf) := calP_of (k := 61) (ps := ["program", "thing"]) (nN := 5) (b := b_read_requirement pf) T.f_read_requirement sc_read_requirement rfl (fun _ _ _ _ _ _ us hl => match us, hl with | [_, _], _ => rfl) fun f Z =>
  pss1_cons (ps1_expr (pd_call Z (c_must T) (by omega) (pad_cons (pd_isi Z ty_str (pd_var Z 1 (by decide +kernel)) T.n_isinstance T.n_str (by decide +kernel) (by decide +kernel) (by decide +kernel)) (pad_nil)) (by decide +kernel))) (pss1_cons (ps1_set Z 2 (pd_if (ptd_cmp (zNe Z) o2_ne (pd_var Z 1 (by decide +kernel)) (pd_str) (by rfl)) (pd_lc Z [("text", 4)] (tgAt_n 4) (pid_list Z (pd_split (pd_var Z 1 (by decide +kernel)) (pd_gd Z T.g_AND (by decide +kernel)))) (pgd_name (Z.blk _) 4 (by decide +kernel)) (ptsd_nil) (pd_call (Z.blk _) (c_part_in T pf hp) (by omega) (pad_cons (pd_var (Z.blk _) 4 (by decide +kernel)) (pad_nil)) (by decide +kernel)) (by decide +kernel) (by decide +kernel)) (pd_lst (pad_nil))) (by decide +kernel)) (pss1_cons (ps1_set Z 3 (pd_if (ptd_cmp (zEq Z) o2_eq (pd_cb Z (zLen Z) oc_len T.n_len (by decide +kernel) (pad_cons (pd_var Z 2 (by decide +kernel)) (pad_nil)) (by decide +kernel)) (pd_int) (by rfl)) (pd_ix (zIx Z) o2_ix (pd_var Z 2 (by decide +kernel)) (pd_int)) (pd_tup (pad_cons (pd_str) (pad_cons (pd_ct Z (zTuple Z) oc_tuple T.n_tuple (by decide +kernel) (pad_cons (pd_var Z 2 (by decide +kernel)) (pad_nil)) (by decide +kernel)) (pad_nil))))) (by decide +kernel)) (pss1_cons (ps1_if (ptd_not (ptd_val (pd_call Z (c_is_requirement T) (by omega) (pad_cons (pd_var Z 0 (by decide +kernel)) (pad_cons (pd_var Z 3 (by decide +kernel)) (pad_nil))) (by decide +kernel)))) (pss1_one (ps1_never)) (pss1_nil)) (pss1_one (ps1_ret (pd_var Z 3 (by decide +kernel)))))))
theorem c_read_requirement (T : Tp K w mg) (pf : Str → Option PyData) (hp : ∀ t d, pf t = some d → t.length ≤ 16777216 ∧ Parses t d) : Cal P w K mg base 62 "read_requirement" 2 (m_read_requirement pf) := (ck_read_requirement T pf hp).cal rfl
end
end K73

set_option maxHeartbeats 2000000
namespace K73
open PySem PySem.Spec PyProof.Rows L2 Pd
section
variable {P : Program} {w : World} {K : PySem.W.Frag} {mg : Str → Option Value} {base : Heap}
abbrev N__law_draw : List Str := ["deck", "ways", "number", "drawn", "cell"]
theorem sc__law_draw : FnScope N__law_draw ["deck", "ways"] (defScope s__law_draw) := ⟨rfl, rfl, rfl, by decide +kernel, rfl, by decide +kernel, by decide +kernel⟩
def b__law_draw : BN Dk := nSeq (nParS 3 2 (nCons (nE2 fAdd (nDeck fun s => .int s.drawn) (nL (rC (.int 1)))) (nCons (nDeck fun s => .int s.blend) (nNil)))) (nSeq (nPutDrawn (nL (rVar 3))) (nSeq (nIfS (nCells) (nSeq (nPopCell 4) (nSeq (nIfS (nTL (tVal (rE2 fGe (rVar 4) (rE2 fPow (rC (.int 10)) (rC (.int 18)))))) (nSeq (nAppCell (nL (rE2 fDiv (rVar 4) (rA fMax2 (aCons (rC (.int 2)) (aCons (rVar 1) (aNil))))))) (nRet (nL (rE2 fMod (rVar 4) (rVar 1))))) (nNext)) (nAsg (gN 2) (nL (rE2 fAdd (rVar 2) (rVar 4)))))) (nNext)) (nSeq (nAsg (gN 2) (nL (rE2 fMod (rE2 fMul (rE2 fAdd (rE2 fAdd (rE2 fMod (rVar 2) (rC (.int 2147483629))) (rE2 fMul (rE2 fMul (rC (.int 92821)) (rVar 3)) (rVar 3))) (rC (.int 73))) (rC (.int 39373))) (rC (.int 2147483647))))) (nSeq (nAsg (gN 2) (nL (rE2 fMod (rE2 fAdd (rE2 fAdd (rE2 fMul (rVar 2) (rVar 2)) (rE2 fMul (rC (.int 69621)) (rVar 3))) (rC (.int 7))) (rC (.int 2147483563))))) (nRet (nL (rE2 fMod (rE2 fDiv (rE2 fMod (rE2 fMul (rVar 2) (rC (.int 40692))) (rC (.int 2147483587))) (rC (.int 64))) (rVar 1))))))))
def m__law_draw : MN Dk := runN 5 b__law_draw
theorem c__law_draw (T : Tp K w mg) : CalN P w K mg base deckR 1 "_law_draw" 1 m__law_draw := calN_of (G := deckR) (k := 0) (ps := ["deck", "ways"]) (nN := 5) (b := b__law_draw) T.f__law_draw sc__law_draw rfl rfl (fun _ _ _ _ _ _ us hl => match us, hl with | [_, _], _ => rfl) fun f Z =>
  psn_cons (psn_par Z 3 2 rfl rfl (by decide) (by decide) (by decide) (by decide +kernel) (by decide +kernel) (pan_cons (pn_bin (fun _ _ => op_addA) o2_addA (pn_drawn Z (by decide +kernel)) (pn_lift (pd_int))) (pan_cons (pn_blend Z (by decide +kernel)) (pan_nil))) (fun env he => swp2 he)) (psn_cons (psn_putDrawn Z (by decide +kernel) (pn_lift (pd_var Z 3 (by decide +kernel)))) (psn_cons (psn_if (ptn_cells Z (by decide +kernel)) (psn_cons (psn_popCell Z 4 (by decide) (by decide +kernel) (by decide +kernel)) (psn_cons (psn_if (ptn_lift (ptd_cmp (fun _ _ => op_ge) o2_ge (pd_var Z 4 (by decide +kernel)) (pd_bin (fun _ _ => op_pow) o2_pow (pd_int) (pd_int)) (by rfl))) (psn_cons (psn_appCell Z (by decide +kernel) (pn_lift (pd_bin (fun _ _ => op_fdivN) o2_div (pd_var Z 4 (by decide +kernel)) (pd_cb Z (zMax Z) oc_max2 T.n_max (by decide +kernel) (pad_cons (pd_int) (pad_cons (pd_var Z 1 (by decide +kernel)) (pad_nil))) (by decide +kernel))))) (psn_one (psn_ret (pn_lift (pd_bin (fun _ _ => op_modN) o2_mod (pd_var Z 4 (by decide +kernel)) (pd_var Z 1 (by decide +kernel))))))) (psn_nil)) (psn_one (psn_set Z 2 (by decide) (pn_lift (pd_bin (fun _ _ => op_addA) o2_addA (pd_var Z 2 (by decide +kernel)) (pd_var Z 4 (by decide +kernel)))) (by decide +kernel))))) (psn_nil)) (psn_cons (psn_set Z 2 (by decide) (pn_lift (pd_bin (fun _ _ => op_modN) o2_mod (pd_bin (fun _ _ => op_mul) o2_mul (pd_bin (fun _ _ => op_addA) o2_addA (pd_bin (fun _ _ => op_addA) o2_addA (pd_bin (fun _ _ => op_modN) o2_mod (pd_var Z 2 (by decide +kernel)) (pd_int)) (pd_bin (fun _ _ => op_mul) o2_mul (pd_bin (fun _ _ => op_mul) o2_mul (pd_int) (pd_var Z 3 (by decide +kernel))) (pd_var Z 3 (by decide +kernel)))) (pd_int)) (pd_int)) (pd_int))) (by decide +kernel)) (psn_cons (psn_set Z 2 (by decide) (pn_lift (pd_bin (fun _ _ => op_modN) o2_mod (pd_bin (fun _ _ => op_addA) o2_addA (pd_bin (fun _ _ => op_addA) o2_addA (pd_bin (fun _ _ => op_mul) o2_mul (pd_var Z 2 (by decide +kernel)) (pd_var Z 2 (by decide +kernel))) (pd_bin (fun _ _ => op_mul) o2_mul (pd_int) (pd_var Z 3 (by decide +kernel)))) (pd_int)) (pd_int))) (by decide +kernel)) (psn_one (psn_ret (pn_lift (pd_bin (fun _ _ => op_modN) o2_mod (pd_bin (fun _ _ => op_fdivN) o2_div (pd_bin (fun _ _ => op_modN) o2_mod (pd_bin (fun _ _ => op_mul) o2_mul (pd_var Z 2 (by decide +kernel)) (pd_int)) (pd_int)) (pd_int)) (pd_var Z 1 (by decide +kernel))))))))))
abbrev N__law_pick : List Str := ["deck", "some"]
theorem sc__law_pick : FnScope N__law_pick ["deck", "some"] (defScope s__law_pick) := ⟨rfl, rfl, rfl, by decide +kernel, rfl, by decide +kernel, by decide +kernel⟩
def b__law_pick : BN Dk := nRet (nE2 fIx (nL (rVar 1)) (nCall 1 (m__law_draw) (nAL (aCons (rA fLen (aCons (rVar 1) (aNil))) (aNil)))))
def m__law_pick : MN Dk := runN 2 b__law_pick
theorem c__law_pick (T : Tp K w mg) : CalN P w K mg base deckR 2 "_law_pick" 1 m__law_pick := calN_of (G := deckR) (k := 1) (ps := ["deck", "some"]) (nN := 2) (b := b__law_pick) T.f__law_pick sc__law_pick rfl rfl (fun _ _ _ _ _ _ us hl => match us, hl with | [_, _], _ => rfl) fun f Z =>
  psn_one (psn_ret (pn_ix (zIx Z) o2_ix (pn_lift (pd_var Z 1 (by decide +kernel))) (pn_call Z (c__law_draw T) (by omega) (pan_lift (pad_cons (pd_cb Z (zLen Z) oc_len T.n_len (by decide +kernel) (pad_cons (pd_var Z 1 (by decide +kernel)) (pad_nil)) (by decide +kernel)) (pad_nil))) (by decide +kernel) (by decide +kernel))))
abbrev N__law_program : List Str := ["deck", "variables", "channels", "k", "cores", "tasks", "some", "v"]
theorem sc__law_program : FnScope N__law_program ["deck"] (defScope s__law_program) := ⟨rfl, rfl, rfl, by decide +kernel, rfl, by decide +kernel, by decide +kernel⟩
def b__law_program : BN Dk := nSeq (nAsg (gN 1) (nCall 1 (m__law_pick) (nAL (aCons (rA mkLst (aCons (rA mkTup (aNil)) (aCons (rA mkTup (aCons (rC (.str "a")) (aNil))) (aCons (rA mkTup (aCons (rC (.str "a")) (aCons (rC (.str "b")) (aNil)))) (aCons (rA mkTup (aCons (rC (.str "ab")) (aCons (rC (.str "b")) (aCons (rC (.str "x")) (aNil))))) (aCons (rA mkTup (aCons (rC (.str "b")) (aNil))) (aNil))))))) (aNil))))) (nSeq (nAsg (gN 2) (nCall 1 (m__law_pick) (nAL (aCons (rA mkLst (aCons (rA mkTup (aNil)) (aCons (rA mkTup (aCons (rC (.str "c")) (aNil))) (aCons (rA mkTup (aCons (rC (.str "c")) (aCons (rC (.str "cc")) (aNil)))) (aCons (rA mkTup (aCons (rC (.str "all")) (aCons (rC (.str "ends")) (aNil)))) (aNil)))))) (aNil))))) (nSeq (nParOw 4 5 (nE2 fAdd (nL (rC (.int 1))) (nA fInt (nCons (nE2 fEq (nCall 1 (m__law_draw) (nAL (aCons (rC (.int 4)) (aNil)))) (nL (rC (.int 0)))) (nNil))))) (nSeq (nFor (nRange (nE2 fAdd (nL (rC (.int 1))) (nCall 1 (m__law_draw) (nAL (aCons (rC (.int 3)) (aNil)))))) (gN 3) (nSeq (nOw 6 (nCons (nA mkTup (nCons (nL (rC (.str "work"))) (nCons (nCall 1 (m__law_pick) (nAL (aCons (rE2 fAdd (rA mkLst (aCons (rC (.int 1)) (aCons (rC (.int 2)) (aCons (rC (.int 5)) (aNil))))) (rLc (aTup (rCut (rVar 1) (oNone) (oSome (rC (.int 2))))) (gN 7) (tTrue) (rA mkTup (aCons (rC (.str "variable")) (aCons (rVar 7) (aNil)))) [7])) (aNil)))) (nNil)))) (nNil))) (nSeq (nIfS (nAnd (nTL (tVal (rE2 fNe (rVar 2) (rA mkTup (aNil))))) (nVal (nE2 fEq (nCall 1 (m__law_draw) (nAL (aCons (rC (.int 3)) (aNil)))) (nL (rC (.int 0)))))) (nApp 6 (nA mkTup (nCons (nL (rC (.str "emit"))) (nCons (nL (rE2 fIx (rVar 2) (rC (.int 0)))) (nCons (nCall 1 (m__law_pick) (nAL (aCons (rE2 fAdd (rA mkLst (aCons (rC (.int 0)) (aCons (rC (.int 3)) (aCons (rC (.int 7)) (aNil))))) (rLc (aTup (rCut (rVar 1) (oNone) (oSome (rC (.int 1))))) (gN 7) (tTrue) (rA mkTup (aCons (rC (.str "variable")) (aCons (rVar 7) (aNil)))) [7])) (aNil)))) (nNil)))))) (nNext)) (nApp 5 (nA mkTup (nCons (nCall 1 (m__law_draw) (nAL (aCons (rC (.int 3)) (aNil)))) (nCons (nL (rC .none)) (nCons (nL (rC (.int 0))) (nCons (nL (rTupOw 6)) (nNil)))))))))) (nRet (nL (rA mkTup (aCons (rVar 1) (aCons (rA mkTup (aNil)) (aCons (rA mkTup (aCons (rVar 4) (aCons (rC (.str "one")) (aCons (rC (.bool false)) (aNil))))) (aCons (rA mkTup (aCons (rA mkTup (aNil)) (aCons (rA mkTup (aNil)) (aCons (rA mkTup (aNil)) (aCons (rVar 2) (aNil)))))) (aCons (rTupOw 5) (aNil))))))))))))
def m__law_program : MN Dk := runN 8 b__law_program
theorem c__law_program (T : Tp K w mg) : CalN P w K mg base deckR 3 "_law_program" 0 m__law_program := calN_of (G := deckR) (k := 2) (ps := ["deck"]) (nN := 8) (b := b__law_program) T.f__law_program sc__law_program rfl rfl (fun _ _ _ _ _ _ us hl => match us, hl with | [_], _ => rfl) fun f Z =>
  psn_cons (psn_set Z 1 (by decide) (pn_call Z (c__law_pick T) (by omega) (pan_lift (pad_cons (pd_lst (pad_cons (pd_tup (pad_nil)) (pad_cons (pd_tup (pad_cons (pd_str) (pad_nil))) (pad_cons (pd_tup (pad_cons (pd_str) (pad_cons (pd_str) (pad_nil)))) (pad_cons (pd_tup (pad_cons (pd_str) (pad_cons (pd_str) (pad_cons (pd_str) (pad_nil))))) (pad_cons (pd_tup (pad_cons (pd_str) (pad_nil))) (pad_nil))))))) (pad_nil))) (by decide +kernel) (by decide +kernel)) (by decide +kernel)) (psn_cons (psn_set Z 2 (by decide) (pn_call Z (c__law_pick T) (by omega) (pan_lift (pad_cons (pd_lst (pad_cons (pd_tup (pad_nil)) (pad_cons (pd_tup (pad_cons (pd_str) (pad_nil))) (pad_cons (pd_tup (pad_cons (pd_str) (pad_cons (pd_str) (pad_nil)))) (pad_cons (pd_tup (pad_cons (pd_str) (pad_cons (pd_str) (pad_nil)))) (pad_nil)))))) (pad_nil))) (by decide +kernel) (by decide +kernel)) (by decide +kernel)) (psn_cons (psn_parOw Z 4 5 rfl rfl (by decide) (by decide) (by decide) (by decide +kernel) (by decide +kernel) (pn_bin (fun _ _ => op_addA) o2_addA (pn_lift (pd_int)) (pn_ct Z (fun _ _ => call_intA) oc_int T.n_int (by decide +kernel) (pan_cons (pn_cmp (zEq Z) o2_eq (pn_call Z (c__law_draw T) (by omega) (pan_lift (pad_cons (pd_int) (pad_nil))) (by decide +kernel) (by decide +kernel)) (pn_lift (pd_int)) (by rfl)) (pan_nil)) (by decide +kernel))) (fun env he => swp2 he)) (psn_cons (psn_for Z (offI_of (tgAt_n 3) (by decide)) (pin_range Z T.n_range (pn_bin (fun _ _ => op_addA) o2_addA (pn_lift (pd_int)) (pn_call Z (c__law_draw T) (by omega) (pan_lift (pad_cons (pd_int) (pad_nil))) (by decide +kernel) (by decide +kernel))) (by decide +kernel)) (pgd_name Z 3 (by decide +kernel)) (psn_cons (psn_ow Z 6 (by decide) (by decide +kernel) (pan_cons (pn_tup (pan_cons (pn_lift (pd_str)) (pan_cons (pn_call Z (c__law_pick T) (by omega) (pan_lift (pad_cons (pd_bin (fun _ _ => op_addA) o2_addA (pd_lst (pad_cons (pd_int) (pad_cons (pd_int) (pad_cons (pd_int) (pad_nil))))) (pd_lc Z [("v", 7)] (tgAt_n 7) (pid_tup Z (pd_slice Z (pd_var Z 1 (by decide +kernel)) (pod_none) (pod_some (pd_int)))) (pgd_name (Z.blk _) 7 (by decide +kernel)) (ptsd_nil) (pd_tup (pad_cons (pd_str) (pad_cons (pd_var (Z.blk _) 7 (by decide +kernel)) (pad_nil)))) (by decide +kernel) (by decide +kernel))) (pad_nil))) (by decide +kernel) (by decide +kernel)) (pan_nil)))) (pan_nil))) (psn_cons (psn_if (PWn.pt (pwn_and (ptn_lift (ptd_cmp (zNe Z) o2_ne (pd_var Z 2 (by decide +kernel)) (pd_tup (pad_nil)) (by rfl))) (pwn_and1 (ptn_cmp (zEq Z) o2_eq (pn_call Z (c__law_draw T) (by omega) (pan_lift (pad_cons (pd_int) (pad_nil))) (by decide +kernel) (by decide +kernel)) (pn_lift (pd_int)) (by rfl))))) (psn_one (psn_append Z 6 (by decide +kernel) (pn_tup (pan_cons (pn_lift (pd_str)) (pan_cons (pn_lift (pd_ix (zIx Z) o2_ix (pd_var Z 2 (by decide +kernel)) (pd_int))) (pan_cons (pn_call Z (c__law_pick T) (by omega) (pan_lift (pad_cons (pd_bin (fun _ _ => op_addA) o2_addA (pd_lst (pad_cons (pd_int) (pad_cons (pd_int) (pad_cons (pd_int) (pad_nil))))) (pd_lc Z [("v", 7)] (tgAt_n 7) (pid_tup Z (pd_slice Z (pd_var Z 1 (by decide +kernel)) (pod_none) (pod_some (pd_int)))) (pgd_name (Z.blk _) 7 (by decide +kernel)) (ptsd_nil) (pd_tup (pad_cons (pd_str) (pad_cons (pd_var (Z.blk _) 7 (by decide +kernel)) (pad_nil)))) (by decide +kernel) (by decide +kernel))) (pad_nil))) (by decide +kernel) (by decide +kernel)) (pan_nil))))))) (psn_nil)) (psn_one (psn_append Z 5 (by decide +kernel) (pn_tup (pan_cons (pn_call Z (c__law_draw T) (by omega) (pan_lift (pad_cons (pd_int) (pad_nil))) (by decide +kernel) (by decide +kernel)) (pan_cons (pn_lift (pd_non)) (pan_cons (pn_lift (pd_int)) (pan_cons (pn_lift (pd_tupOw Z 6 T.n_tuple (by decide +kernel) (by decide +kernel))) (pan_nil))))))))))) (psn_one (psn_ret (pn_lift (pd_tup (pad_cons (pd_var Z 1 (by decide +kernel)) (pad_cons (pd_tup (pad_nil)) (pad_cons (pd_tup (pad_cons (pd_var Z 4 (by decide +kernel)) (pad_cons (pd_str) (pad_cons (pd_bl) (pad_nil))))) (pad_cons (pd_tup (pad_cons (pd_tup (pad_nil)) (pad_cons (pd_tup (pad_nil)) (pad_cons (pd_tup (pad_nil)) (pad_cons (pd_var Z 2 (by decide +kernel)) (pad_nil)))))) (pad_cons (pd_tupOw Z 5 T.n_tuple (by decide +kernel) (by decide +kernel)) (pad_nil)))))))))))))
abbrev N__law_number : List Str := ["deck"]
theorem sc__law_number : FnScope N__law_number ["deck"] (defScope s__law_number) := ⟨rfl, rfl, rfl, by decide +kernel, rfl, by decide +kernel, by decide +kernel⟩
def b__law_number : BN Dk := nRet (nCall 1 (m__law_pick) (nAL (aCons (rA mkLst (aCons (rC (.int 0)) (aCons (rC (.int 1)) (aCons (rC (.int 2)) (aCons (rC (.int 3)) (aCons (rC (.int 5)) (aCons (rC (.int 8)) (aCons (rE1 fNeg (rC (.int 1))) (aCons (rE1 fNeg (rC (.int 4))) (aCons (rA mkTup (aCons (rC (.int 1)) (aCons (rC (.int 2)) (aNil)))) (aCons (rA mkTup (aCons (rC (.int 5)) (aCons (rC (.int 2)) (aNil)))) (aCons (rA mkTup (aCons (rE1 fNeg (rC (.int 3))) (aCons (rC (.int 2)) (aNil)))) (aCons (rA mkTup (aCons (rC (.int 7)) (aCons (rC (.int 3)) (aNil)))) (aCons (rA mkTup (aCons (rE2 fAdd (rE2 fPow (rC (.int 10)) (rC (.int 12))) (rC (.int 1))) (aCons (rC (.int 10)) (aNil)))) (aCons (rE2 fPow (rC (.int 10)) (rC (.int 20))) (aNil)))))))))))))))) (aNil))))
def m__law_number : MN Dk := runN 1 b__law_number
theorem c__law_number (T : Tp K w mg) : CalN P w K mg base deckR 3 "_law_number" 0 m__law_number := calN_of (G := deckR) (k := 2) (ps := ["deck"]) (nN := 1) (b := b__law_number) T.f__law_number sc__law_number rfl rfl (fun _ _ _ _ _ _ us hl => match us, hl with | [_], _ => rfl) fun f Z =>
  psn_one (psn_ret (pn_call Z (c__law_pick T) (by omega) (pan_lift (pad_cons (pd_lst (pad_cons (pd_int) (pad_cons (pd_int) (pad_cons (pd_int) (pad_cons (pd_int) (pad_cons (pd_int) (pad_cons (pd_int) (pad_cons (pd_un (fun _ _ => un_neg) o1_neg (pd_int)) (pad_cons (pd_un (fun _ _ => un_neg) o1_neg (pd_int)) (pad_cons (pd_tup (pad_cons (pd_int) (pad_cons (pd_int) (pad_nil)))) (pad_cons (pd_tup (pad_cons (pd_int) (pad_cons (pd_int) (pad_nil)))) (pad_cons (pd_tup (pad_cons (pd_un (fun _ _ => un_neg) o1_neg (pd_int)) (pad_cons (pd_int) (pad_nil)))) (pad_cons (pd_tup (pad_cons (pd_int) (pad_cons (pd_int) (pad_nil)))) (pad_cons (pd_tup (pad_cons (pd_bin (fun _ _ => op_addA) o2_addA (pd_bin (fun _ _ => op_pow) o2_pow (pd_int) (pd_int)) (pd_int)) (pad_cons (pd_int) (pad_nil)))) (pad_cons (pd_bin (fun _ _ => op_pow) o2_pow (pd_int) (pd_int)) (pad_nil)))))))))))))))) (pad_nil))) (by decide +kernel) (by decide +kernel)))
abbrev N__law_expression : List Str := ["deck", "variables", "deep", "way", "word"]
theorem sc__law_expression : FnScope N__law_expression ["deck", "variables", "deep"] (defScope s__law_expression) := ⟨rfl, rfl, rfl, by decide +kernel, rfl, by decide +kernel, by decide +kernel⟩
def b__law_expression (m : MN Dk) : BN Dk := nSeq (nAsg (gN 3) (nCall 1 (m__law_draw) (nAL (aCons (rC (.int 6)) (aNil))))) (nSeq (nIfS (nTL (tOrD (tVal (rE2 fEq (rVar 2) (rC (.int 1)))) (tVal (rE2 fLt (rVar 3) (rC (.int 3)))))) (nRet (nIf (nTL (tAndD (tVal (rE2 fNe (rVar 1) (rA mkTup (aNil)))) (tVal (rE2 fNe (rVar 3) (rC (.int 1)))))) (nA mkTup (nCons (nL (rC (.str "variable"))) (nCons (nCall 1 (m__law_pick) (nAL (aCons (rVar 1) (aNil)))) (nNil)))) (nCall 1 (m__law_pick) (nAL (aCons (rA mkLst (aCons (rC (.int 0)) (aCons (rC (.int 1)) (aCons (rC (.int 4)) (aCons (rE1 fNeg (rC (.int 2))) (aCons (rE2 fPow (rC (.int 10)) (rC (.int 6))) (aCons (rE1 fNeg (rE2 fPow (rC (.int 10)) (rC (.int 6)))) (aNil)))))))) (aNil)))))) (nNext)) (nSeq (nIfS (nTL (tVal (rE2 fEq (rVar 3) (rC (.int 3))))) (nRet (nA mkTup (nCons (nL (rC (.str "times"))) (nCons (nCall 1 (m__law_pick) (nAL (aCons (rA mkLst (aCons (rC (.int 0)) (aCons (rC (.int 1)) (aCons (rC (.int 2)) (aCons (rE1 fNeg (rC (.int 3))) (aCons (rE2 fPow (rC (.int 10)) (rC (.int 6))) (aNil))))))) (aNil)))) (nCons (nCall 2 m (nAL (aCons (rVar 1) (aCons (rE2 fSub (rVar 2) (rC (.int 1))) (aNil))))) (nNil)))))) (nNext)) (nSeq (nAsg (gN 4) (nCall 1 (m__law_pick) (nAL (aCons (rA mkLst (aCons (rC (.str "plus")) (aCons (rC (.str "minus")) (aNil)))) (aNil))))) (nRet (nA mkTup (nCons (nL (rVar 4)) (nCons (nCall 2 m (nAL (aCons (rVar 1) (aCons (rE2 fSub (rVar 2) (rC (.int 1))) (aNil))))) (nCons (nCall 2 m (nAL (aCons (rVar 1) (aCons (rE2 fSub (rVar 2) (rC (.int 1))) (aNil))))) (nNil)))))))))
def m__law_expression : Nat → MN Dk
  | 0 => fun _ _ _ => False
  | n + 1 => runN 5 (b__law_expression (m__law_expression n))
theorem c__law_expression (T : Tp K w mg) : ∀ n, CalN P w K mg base deckR (2 + n) "_law_expression" 2 (m__law_expression n)
  | 0 => calN_zero (ps := ["deck", "variables", "deep"]) T.f__law_expression rfl (fun _ _ _ _ _ _ us hl => match us, hl with | [_, _, _], _ => rfl)
  | n + 1 => by
    have ih := c__law_expression T n
    exact calN_of (G := deckR) (k := 2 + n) (ps := ["deck", "variables", "deep"]) (nN := 5) (b := b__law_expression (m__law_expression n)) T.f__law_expression sc__law_expression rfl rfl (fun _ _ _ _ _ _ us hl => match us, hl with | [_, _, _], _ => rfl) fun f Z =>
      psn_cons (psn_set Z 3 (by decide) (pn_call Z (c__law_draw T) (by omega) (pan_lift (pad_cons (pd_int) (pad_nil))) (by decide +kernel) (by decide +kernel)) (by decide +kernel)) (psn_cons (psn_if (ptn_lift (PWd.pt (pwd_or (ptd_cmp (zEq Z) o2_eq (pd_var Z 2 (by decide +kernel)) (pd_int) (by rfl)) (pwd_or1 (ptd_cmp (fun _ _ => op_lt) o2_lt (pd_var Z 3 (by decide +kernel)) (pd_int) (by rfl)))))) (psn_one (psn_ret (pn_if (ptn_lift (PWd.pt (pwd_and (ptd_cmp (zNe Z) o2_ne (pd_var Z 1 (by decide +kernel)) (pd_tup (pad_nil)) (by rfl)) (pwd_and1 (ptd_cmp (zNe Z) o2_ne (pd_var Z 3 (by decide +kernel)) (pd_int) (by rfl)))))) (pn_tup (pan_cons (pn_lift (pd_str)) (pan_cons (pn_call Z (c__law_pick T) (by omega) (pan_lift (pad_cons (pd_var Z 1 (by decide +kernel)) (pad_nil))) (by decide +kernel) (by decide +kernel)) (pan_nil)))) (pn_call Z (c__law_pick T) (by omega) (pan_lift (pad_cons (pd_lst (pad_cons (pd_int) (pad_cons (pd_int) (pad_cons (pd_int) (pad_cons (pd_un (fun _ _ => un_neg) o1_neg (pd_int)) (pad_cons (pd_bin (fun _ _ => op_pow) o2_pow (pd_int) (pd_int)) (pad_cons (pd_un (fun _ _ => un_neg) o1_neg (pd_bin (fun _ _ => op_pow) o2_pow (pd_int) (pd_int))) (pad_nil)))))))) (pad_nil))) (by decide +kernel) (by decide +kernel))))) (psn_nil)) (psn_cons (psn_if (ptn_lift (ptd_cmp (zEq Z) o2_eq (pd_var Z 3 (by decide +kernel)) (pd_int) (by rfl))) (psn_one (psn_ret (pn_tup (pan_cons (pn_lift (pd_str)) (pan_cons (pn_call Z (c__law_pick T) (by omega) (pan_lift (pad_cons (pd_lst (pad_cons (pd_int) (pad_cons (pd_int) (pad_cons (pd_int) (pad_cons (pd_un (fun _ _ => un_neg) o1_neg (pd_int)) (pad_cons (pd_bin (fun _ _ => op_pow) o2_pow (pd_int) (pd_int)) (pad_nil))))))) (pad_nil))) (by decide +kernel) (by decide +kernel)) (pan_cons (pn_call Z ih (by omega) (pan_lift (pad_cons (pd_var Z 1 (by decide +kernel)) (pad_cons (pd_bin (fun _ _ => op_sub) o2_sub (pd_var Z 2 (by decide +kernel)) (pd_int)) (pad_nil)))) (by decide +kernel) (by decide +kernel)) (pan_nil))))))) (psn_nil)) (psn_cons (psn_set Z 4 (by decide) (pn_call Z (c__law_pick T) (by omega) (pan_lift (pad_cons (pd_lst (pad_cons (pd_str) (pad_cons (pd_str) (pad_nil)))) (pad_nil))) (by decide +kernel) (by decide +kernel)) (by decide +kernel)) (psn_one (psn_ret (pn_tup (pan_cons (pn_lift (pd_var Z 4 (by decide +kernel))) (pan_cons (pn_call Z ih (by omega) (pan_lift (pad_cons (pd_var Z 1 (by decide +kernel)) (pad_cons (pd_bin (fun _ _ => op_sub) o2_sub (pd_var Z 2 (by decide +kernel)) (pd_int)) (pad_nil)))) (by decide +kernel) (by decide +kernel)) (pan_cons (pn_call Z ih (by omega) (pan_lift (pad_cons (pd_var Z 1 (by decide +kernel)) (pad_cons (pd_bin (fun _ _ => op_sub) o2_sub (pd_var Z 2 (by decide +kernel)) (pd_int)) (pad_nil)))) (by decide +kernel) (by decide +kernel)) (pan_nil))))))))))
abbrev N__law_name : List Str := ["deck", "rounds"]
theorem sc__law_name : FnScope N__law_name ["deck"] (defScope s__law_name) := ⟨rfl, rfl, rfl, by decide +kernel, rfl, by decide +kernel, by decide +kernel⟩
def b__law_name : BN Dk := nSeq (nAsg (gN 1) (nCall 1 (m__law_pick) (nAL (aCons (rA mkLst (aCons (rA mkTup (aNil)) (aCons (rA mkTup (aNil)) (aCons (rA mkTup (aNil)) (aCons (rA mkTup (aCons (rC (.int 0)) (aNil))) (aCons (rA mkTup (aCons (rC (.int 3)) (aCons (rC (.int 1)) (aNil)))) (aCons (rA mkTup (aCons (rC (.int 12)) (aNil))) (aNil)))))))) (aNil))))) (nRet (nA mkTup (nCons (nCall 1 (m__law_pick) (nAL (aCons (rA mkLst (aCons (rC (.int 0)) (aCons (rC (.int 1)) (aCons (rC (.int 2)) (aCons (rC (.int 7)) (aNil)))))) (aNil)))) (nCons (nCall 1 (m__law_pick) (nAL (aCons (rA mkLst (aCons (rC (.int 0)) (aCons (rC (.int 1)) (aCons (rC (.int 2)) (aCons (rE1 fNeg (rC (.int 1))) (aCons (rC (.int 14)) (aNil))))))) (aNil)))) (nCons (nL (rVar 1)) (nCons (nCall 1 (m__law_pick) (nAL (aCons (rA mkLst (aCons (rC (.str "start")) (aCons (rC (.str "step")) (aCons (rC (.str "done")) (aCons (rC (.str "timer")) (aCons (rC (.str "finish")) (aNil))))))) (aNil)))) (nNil)))))))
def m__law_name : MN Dk := runN 2 b__law_name
theorem c__law_name (T : Tp K w mg) : CalN P w K mg base deckR 3 "_law_name" 0 m__law_name := calN_of (G := deckR) (k := 2) (ps := ["deck"]) (nN := 2) (b := b__law_name) T.f__law_name sc__law_name rfl rfl (fun _ _ _ _ _ _ us hl => match us, hl with | [_], _ => rfl) fun f Z =>
  psn_cons (psn_set Z 1 (by decide) (pn_call Z (c__law_pick T) (by omega) (pan_lift (pad_cons (pd_lst (pad_cons (pd_tup (pad_nil)) (pad_cons (pd_tup (pad_nil)) (pad_cons (pd_tup (pad_nil)) (pad_cons (pd_tup (pad_cons (pd_int) (pad_nil))) (pad_cons (pd_tup (pad_cons (pd_int) (pad_cons (pd_int) (pad_nil)))) (pad_cons (pd_tup (pad_cons (pd_int) (pad_nil))) (pad_nil)))))))) (pad_nil))) (by decide +kernel) (by decide +kernel)) (by decide +kernel)) (psn_one (psn_ret (pn_tup (pan_cons (pn_call Z (c__law_pick T) (by omega) (pan_lift (pad_cons (pd_lst (pad_cons (pd_int) (pad_cons (pd_int) (pad_cons (pd_int) (pad_cons (pd_int) (pad_nil)))))) (pad_nil))) (by decide +kernel) (by decide +kernel)) (pan_cons (pn_call Z (c__law_pick T) (by omega) (pan_lift (pad_cons (pd_lst (pad_cons (pd_int) (pad_cons (pd_int) (pad_cons (pd_int) (pad_cons (pd_un (fun _ _ => un_neg) o1_neg (pd_int)) (pad_cons (pd_int) (pad_nil))))))) (pad_nil))) (by decide +kernel) (by decide +kernel)) (pan_cons (pn_lift (pd_var Z 1 (by decide +kernel))) (pan_cons (pn_call Z (c__law_pick T) (by omega) (pan_lift (pad_cons (pd_lst (pad_cons (pd_str) (pad_cons (pd_str) (pad_cons (pd_str) (pad_cons (pd_str) (pad_cons (pd_str) (pad_nil))))))) (pad_nil))) (by decide +kernel) (by decide +kernel)) (pan_nil))))))))
abbrev N__law_part : List Str := ["deck", "program", "channels", "way", "numbers", "k"]
theorem sc__law_part : FnScope N__law_part ["deck", "program"] (defScope s__law_part) := ⟨rfl, rfl, rfl, by decide +kernel, rfl, by decide +kernel, by decide +kernel⟩
def b__law_part : BN Dk := nSeq (nParS 2 3 (nCons (nL (rE2 fIx (rE2 fIx (rVar 1) (rC (.int 3))) (rC (.int 3)))) (nCons (nCall 1 (m__law_draw) (nAL (aCons (rC (.int 5)) (aNil)))) (nNil)))) (nSeq (nIfS (nTL (tAndD (tVal (rE2 fEq (rVar 3) (rC (.int 0)))) (tVal (rE2 fNe (rVar 2) (rA mkTup (aNil)))))) (nSeq (nAsg (gN 4) (nA fTuple (nCons (nLc (nLcA (nRange (nCall 1 (m__law_draw) (nAL (aCons (rC (.int 4)) (aNil))))) (gN 5) (nCall 0 (m__law_number) (nAL (aNil))) [5])) (nNil)))) (nRet (nA mkTup (nCons (nL (rC (.str "emits"))) (nCons (nCall 1 (m__law_pick) (nAL (aCons (rVar 2) (aNil)))) (nCons (nL (rVar 4)) (nNil))))))) (nNext)) (nSeq (nIfS (nTL (tVal (rE2 fEq (rVar 3) (rC (.int 1))))) (nRet (nCall 1 (m__law_pick) (nAL (aCons (rA mkLst (aCons (rA mkTup (aCons (rC (.str "unblocked")) (aNil))) (aCons (rA mkTup (aCons (rC (.str "faultless")) (aNil))) (aNil)))) (aNil))))) (nNext)) (nRet (nA mkTup (nCons (nL (rC (.str "ends"))) (nCons (nCall 1 (m__law_draw) (nAL (aCons (rA fLen (aCons (rE2 fIx (rVar 1) (rC (.int 4))) (aNil))) (aNil)))) (nCons (nCall 2 (m__law_expression 5) (nAL (aCons (rE2 fIx (rVar 1) (rC (.int 0))) (aCons (rC (.int 4)) (aNil))))) (nNil))))))))
def m__law_part : MN Dk := runN 6 b__law_part
theorem c__law_part (T : Tp K w mg) : CalN P w K mg base deckR 8 "_law_part" 1 m__law_part := calN_of (G := deckR) (k := 7) (ps := ["deck", "program"]) (nN := 6) (b := b__law_part) T.f__law_part sc__law_part rfl rfl (fun _ _ _ _ _ _ us hl => match us, hl with | [_, _], _ => rfl) fun f Z =>
  psn_cons (psn_par Z 2 3 rfl rfl (by decide) (by decide) (by decide) (by decide +kernel) (by decide +kernel) (pan_cons (pn_lift (pd_ix (zIx Z) o2_ix (pd_ix (zIx Z) o2_ix (pd_var Z 1 (by decide +kernel)) (pd_int)) (pd_int))) (pan_cons (pn_call Z (c__law_draw T) (by omega) (pan_lift (pad_cons (pd_int) (pad_nil))) (by decide +kernel) (by decide +kernel)) (pan_nil))) (fun env he => swp2 he)) (psn_cons (psn_if (ptn_lift (PWd.pt (pwd_and (ptd_cmp (zEq Z) o2_eq (pd_var Z 3 (by decide +kernel)) (pd_int) (by rfl)) (pwd_and1 (ptd_cmp (zNe Z) o2_ne (pd_var Z 2 (by decide +kernel)) (pd_tup (pad_nil)) (by rfl)))))) (psn_cons (psn_set Z 4 (by decide) (pn_ct Z (zTuple Z) oc_tuple T.n_tuple (by decide +kernel) (pan_cons (pn_lc Z [("k", 5)] (tgAt_n 5) (pin_range Z T.n_range (pn_call Z (c__law_draw T) (by omega) (pan_lift (pad_cons (pd_int) (pad_nil))) (by decide +kernel) (by decide +kernel)) (by decide +kernel)) (pgd_name (Z.blk _) 5 (by decide +kernel)) (pn_call (Z.blk _) (c__law_number T) (by omega) (pan_lift (pad_nil)) (by decide +kernel) (by decide +kernel)) (by decide +kernel) (by decide +kernel) (by decide +kernel)) (pan_nil)) (by decide +kernel)) (by decide +kernel)) (psn_one (psn_ret (pn_tup (pan_cons (pn_lift (pd_str)) (pan_cons (pn_call Z (c__law_pick T) (by omega) (pan_lift (pad_cons (pd_var Z 2 (by decide +kernel)) (pad_nil))) (by decide +kernel) (by decide +kernel)) (pan_cons (pn_lift (pd_var Z 4 (by decide +kernel))) (pan_nil)))))))) (psn_nil)) (psn_cons (psn_if (ptn_lift (ptd_cmp (zEq Z) o2_eq (pd_var Z 3 (by decide +kernel)) (pd_int) (by rfl))) (psn_one (psn_ret (pn_call Z (c__law_pick T) (by omega) (pan_lift (pad_cons (pd_lst (pad_cons (pd_tup (pad_cons (pd_str) (pad_nil))) (pad_cons (pd_tup (pad_cons (pd_str) (pad_nil))) (pad_nil)))) (pad_nil))) (by decide +kernel) (by decide +kernel)))) (psn_nil)) (psn_one (psn_ret (pn_tup (pan_cons (pn_lift (pd_str)) (pan_cons (pn_call Z (c__law_draw T) (by omega) (pan_lift (pad_cons (pd_cb Z (zLen Z) oc_len T.n_len (by decide +kernel) (pad_cons (pd_ix (zIx Z) o2_ix (pd_var Z 1 (by decide +kernel)) (pd_int)) (pad_nil)) (by decide +kernel)) (pad_nil))) (by decide +kernel) (by decide +kernel)) (pan_cons (pn_call Z (c__law_expression T 5) (by omega) (pan_lift (pad_cons (pd_ix (zIx Z) o2_ix (pd_var Z 1 (by decide +kernel)) (pd_int)) (pad_cons (pd_int) (pad_nil)))) (by decide +kernel) (by decide +kernel)) (pan_nil)))))))))
abbrev N__law_requirement : List Str := ["deck", "program", "many", "parts", "k"]
theorem sc__law_requirement : FnScope N__law_requirement ["deck", "program"] (defScope s__law_requirement) := ⟨rfl, rfl, rfl, by decide +kernel, rfl, by decide +kernel, by decide +kernel⟩
def b__law_requirement : BN Dk := nSeq (nAsg (gN 2) (nCall 1 (m__law_draw) (nAL (aCons (rC (.int 6)) (aNil))))) (nSeq (nIfS (nTL (tVal (rE2 fLt (rVar 2) (rC (.int 2))))) (nRet (nCall 1 (m__law_part) (nAL (aCons (rVar 1) (aNil))))) (nNext)) (nSeq (nOwLc 3 (nLcA (nRange (nL (rE2 fSub (rVar 2) (rC (.int 2))))) (gN 4) (nCall 1 (m__law_part) (nAL (aCons (rVar 1) (aNil)))) [4])) (nSeq (nIfS (nVal (nE2 fEq (nCall 1 (m__law_draw) (nAL (aCons (rC (.int 3)) (aNil)))) (nL (rC (.int 0))))) (nApp 3 (nA mkTup (nCons (nL (rC (.str "all"))) (nCons (nA fTuple (nCons (nLc (nLcA (nRange (nCall 1 (m__law_draw) (nAL (aCons (rC (.int 3)) (aNil))))) (gN 4) (nCall 1 (m__law_part) (nAL (aCons (rVar 1) (aNil)))) [4])) (nNil))) (nNil))))) (nNext)) (nRet (nL (rA mkTup (aCons (rC (.str "all")) (aCons (rTupOw 3) (aNil)))))))))
def m__law_requirement : MN Dk := runN 5 b__law_requirement
theorem c__law_requirement (T : Tp K w mg) : CalN P w K mg base deckR 9 "_law_requirement" 1 m__law_requirement := calN_of (G := deckR) (k := 8) (ps := ["deck", "program"]) (nN := 5) (b := b__law_requirement) T.f__law_requirement sc__law_requirement rfl rfl (fun _ _ _ _ _ _ us hl => match us, hl with | [_, _], _ => rfl) fun f Z =>
  psn_cons (psn_set Z 2 (by decide) (pn_call Z (c__law_draw T) (by omega) (pan_lift (pad_cons (pd_int) (pad_nil))) (by decide +kernel) (by decide +kernel)) (by decide +kernel)) (psn_cons (psn_if (ptn_lift (ptd_cmp (fun _ _ => op_lt) o2_lt (pd_var Z 2 (by decide +kernel)) (pd_int) (by rfl))) (psn_one (psn_ret (pn_call Z (c__law_part T) (by omega) (pan_lift (pad_cons (pd_var Z 1 (by decide +kernel)) (pad_nil))) (by decide +kernel) (by decide +kernel)))) (psn_nil)) (psn_cons (psn_owLc Z 3 [("k", 4)] (by decide) (tgAt_n 4) (pin_range Z T.n_range (pn_lift (pd_bin (fun _ _ => op_sub) o2_sub (pd_var Z 2 (by decide +kernel)) (pd_int))) (by decide +kernel)) (pgd_name (Z.blk _) 4 (by decide +kernel)) (pn_call (Z.blk _) (c__law_part T) (by omega) (pan_lift (pad_cons (pd_var (Z.blk _) 1 (by decide +kernel)) (pad_nil))) (by decide +kernel) (by decide +kernel)) (by decide +kernel) (by decide +kernel) (by decide +kernel) rfl (by rfl) (by rfl) (by rfl) (by decide +kernel)) (psn_cons (psn_if (ptn_cmp (zEq Z) o2_eq (pn_call Z (c__law_draw T) (by omega) (pan_lift (pad_cons (pd_int) (pad_nil))) (by decide +kernel) (by decide +kernel)) (pn_lift (pd_int)) (by rfl)) (psn_one (psn_append Z 3 (by decide +kernel) (pn_tup (pan_cons (pn_lift (pd_str)) (pan_cons (pn_ct Z (zTuple Z) oc_tuple T.n_tuple (by decide +kernel) (pan_cons (pn_lc Z [("k", 4)] (tgAt_n 4) (pin_range Z T.n_range (pn_call Z (c__law_draw T) (by omega) (pan_lift (pad_cons (pd_int) (pad_nil))) (by decide +kernel) (by decide +kernel)) (by decide +kernel)) (pgd_name (Z.blk _) 4 (by decide +kernel)) (pn_call (Z.blk _) (c__law_part T) (by omega) (pan_lift (pad_cons (pd_var (Z.blk _) 1 (by decide +kernel)) (pad_nil))) (by decide +kernel) (by decide +kernel)) (by decide +kernel) (by decide +kernel) (by decide +kernel)) (pan_nil)) (by decide +kernel)) (pan_nil)))))) (psn_nil)) (psn_one (psn_ret (pn_lift (pd_tup (pad_cons (pd_str) (pad_cons (pd_tupOw Z 3 T.n_tuple (by decide +kernel) (by decide +kernel)) (pad_nil))))))))))
abbrev N__law_sight : List Str := ["deck", "program", "channels", "way"]
theorem sc__law_sight : FnScope N__law_sight ["deck", "program"] (defScope s__law_sight) := ⟨rfl, rfl, rfl, by decide +kernel, rfl, by decide +kernel, by decide +kernel⟩
def b__law_sight : BN Dk := nSeq (nParS 2 3 (nCons (nL (rE2 fIx (rE2 fIx (rVar 1) (rC (.int 3))) (rC (.int 3)))) (nCons (nCall 1 (m__law_draw) (nAL (aCons (rC (.int 4)) (aNil)))) (nNil)))) (nSeq (nIfS (nTL (tAndD (tVal (rE2 fEq (rVar 3) (rC (.int 0)))) (tVal (rE2 fNe (rVar 2) (rA mkTup (aNil)))))) (nRet (nA mkTup (nCons (nL (rC (.str "emits"))) (nCons (nCall 1 (m__law_pick) (nAL (aCons (rVar 2) (aNil)))) (nNil))))) (nNext)) (nSeq (nIfS (nTL (tVal (rE2 fEq (rVar 3) (rC (.int 1))))) (nRet (nA mkTup (nCons (nL (rC (.str "later"))) (nCons (nCall 0 (m__law_name) (nAL (aNil))) (nCons (nCall 0 (m__law_name) (nAL (aNil))) (nNil)))))) (nNext)) (nRet (nA mkTup (nCons (nCall 1 (m__law_pick) (nAL (aCons (rA mkLst (aCons (rC (.str "time")) (aCons (rC (.str "comes")) (aNil)))) (aNil)))) (nCons (nCall 0 (m__law_name) (nAL (aNil))) (nNil)))))))
def m__law_sight : MN Dk := runN 4 b__law_sight
theorem c__law_sight (T : Tp K w mg) : CalN P w K mg base deckR 4 "_law_sight" 1 m__law_sight := calN_of (G := deckR) (k := 3) (ps := ["deck", "program"]) (nN := 4) (b := b__law_sight) T.f__law_sight sc__law_sight rfl rfl (fun _ _ _ _ _ _ us hl => match us, hl with | [_, _], _ => rfl) fun f Z =>
  psn_cons (psn_par Z 2 3 rfl rfl (by decide) (by decide) (by decide) (by decide +kernel) (by decide +kernel) (pan_cons (pn_lift (pd_ix (zIx Z) o2_ix (pd_ix (zIx Z) o2_ix (pd_var Z 1 (by decide +kernel)) (pd_int)) (pd_int))) (pan_cons (pn_call Z (c__law_draw T) (by omega) (pan_lift (pad_cons (pd_int) (pad_nil))) (by decide +kernel) (by decide +kernel)) (pan_nil))) (fun env he => swp2 he)) (psn_cons (psn_if (ptn_lift (PWd.pt (pwd_and (ptd_cmp (zEq Z) o2_eq (pd_var Z 3 (by decide +kernel)) (pd_int) (by rfl)) (pwd_and1 (ptd_cmp (zNe Z) o2_ne (pd_var Z 2 (by decide +kernel)) (pd_tup (pad_nil)) (by rfl)))))) (psn_one (psn_ret (pn_tup (pan_cons (pn_lift (pd_str)) (pan_cons (pn_call Z (c__law_pick T) (by omega) (pan_lift (pad_cons (pd_var Z 2 (by decide +kernel)) (pad_nil))) (by decide +kernel) (by decide +kernel)) (pan_nil)))))) (psn_nil)) (psn_cons (psn_if (ptn_lift (ptd_cmp (zEq Z) o2_eq (pd_var Z 3 (by decide +kernel)) (pd_int) (by rfl))) (psn_one (psn_ret (pn_tup (pan_cons (pn_lift (pd_str)) (pan_cons (pn_call Z (c__law_name T) (by omega) (pan_lift (pad_nil)) (by decide +kernel) (by decide +kernel)) (pan_cons (pn_call Z (c__law_name T) (by omega) (pan_lift (pad_nil)) (by decide +kernel) (by decide +kernel)) (pan_nil))))))) (psn_nil)) (psn_one (psn_ret (pn_tup (pan_cons (pn_call Z (c__law_pick T) (by omega) (pan_lift (pad_cons (pd_lst (pad_cons (pd_str) (pad_cons (pd_str) (pad_nil)))) (pad_nil))) (by decide +kernel) (by decide +kernel)) (pan_cons (pn_call Z (c__law_name T) (by omega) (pan_lift (pad_nil)) (by decide +kernel) (by decide +kernel)) (pan_nil))))))))
abbrev N__law_box : List Str := ["deck", "program", "found", "v", "low", "high"]
theorem sc__law_box : FnScope N__law_box ["deck", "program"] (defScope s__law_box) := ⟨rfl, rfl, rfl, by decide +kernel, rfl, by decide +kernel, by decide +kernel⟩
def b__law_box : BN Dk := nSeq (nOw 2 (nAL (aNil))) (nSeq (nFor (nAL (aTup (rE2 fIx (rVar 1) (rC (.int 0))))) (gN 3) (nSeq (nParS 4 5 (nCons (nCall 0 (m__law_number) (nAL (aNil))) (nCons (nCall 0 (m__law_number) (nAL (aNil))) (nNil)))) (nSeq (nIfS (nTL (tNotD (tVal (rCall 2 m__law_less (aCons (rVar 4) (aCons (rVar 5) (aNil))))))) (nParS 4 5 (nAL (aCons (rVar 5) (aCons (rVar 4) (aNil))))) (nNext)) (nApp 2 (nL (rIf (tVal (rCall 2 m__law_less (aCons (rVar 4) (aCons (rVar 5) (aNil))))) (rA mkTup (aCons (rVar 3) (aCons (rVar 4) (aCons (rVar 5) (aNil))))) (rA mkTup (aCons (rVar 3) (aCons (rC (.int 0)) (aCons (rC (.int 9)) (aNil))))))))))) (nRet (nL (rTupOw 2))))
def m__law_box : MN Dk := runN 6 b__law_box
theorem c__law_box (T : Tp K w mg) : CalN P w K mg base deckR 4 "_law_box" 1 m__law_box := calN_of (G := deckR) (k := 3) (ps := ["deck", "program"]) (nN := 6) (b := b__law_box) T.f__law_box sc__law_box rfl rfl (fun _ _ _ _ _ _ us hl => match us, hl with | [_, _], _ => rfl) fun f Z =>
  psn_cons (psn_ow Z 2 (by decide) (by decide +kernel) (pan_lift (pad_nil))) (psn_cons (psn_for Z (offI_of (tgAt_n 3) (by decide)) (pin_tup Z (pd_ix (zIx Z) o2_ix (pd_var Z 1 (by decide +kernel)) (pd_int))) (pgd_name Z 3 (by decide +kernel)) (psn_cons (psn_par Z 4 5 rfl rfl (by decide) (by decide) (by decide) (by decide +kernel) (by decide +kernel) (pan_cons (pn_call Z (c__law_number T) (by omega) (pan_lift (pad_nil)) (by decide +kernel) (by decide +kernel)) (pan_cons (pn_call Z (c__law_number T) (by omega) (pan_lift (pad_nil)) (by decide +kernel) (by decide +kernel)) (pan_nil))) (fun env he => swp2 he)) (psn_cons (psn_if (ptn_lift (ptd_not (ptd_val (pd_call Z (c__law_less T) (by omega) (pad_cons (pd_var Z 4 (by decide +kernel)) (pad_cons (pd_var Z 5 (by decide +kernel)) (pad_nil))) (by decide +kernel))))) (psn_one (psn_par Z 4 5 rfl rfl (by decide) (by decide) (by decide) (by decide +kernel) (by decide +kernel) (pan_lift (pad_cons (pd_var Z 5 (by decide +kernel)) (pad_cons (pd_var Z 4 (by decide +kernel)) (pad_nil)))) (fun env he => swp2 he))) (psn_nil)) (psn_one (psn_append Z 2 (by decide +kernel) (pn_lift (pd_if (ptd_val (pd_call Z (c__law_less T) (by omega) (pad_cons (pd_var Z 4 (by decide +kernel)) (pad_cons (pd_var Z 5 (by decide +kernel)) (pad_nil))) (by decide +kernel))) (pd_tup (pad_cons (pd_var Z 3 (by decide +kernel)) (pad_cons (pd_var Z 4 (by decide +kernel)) (pad_cons (pd_var Z 5 (by decide +kernel)) (pad_nil))))) (pd_tup (pad_cons (pd_var Z 3 (by decide +kernel)) (pad_cons (pd_int) (pad_cons (pd_int) (pad_nil)))))))))))) (psn_one (psn_ret (pn_lift (pd_tupOw Z 2 T.n_tuple (by decide +kernel) (by decide +kernel))))))
end
end K73

set_option maxHeartbeats 2000000
namespace K73
open PySem PySem.Spec PyProof.Rows L2 Pd
/-- the script: a list of numbers that stands still -/
def scR (K : PySem.W.Frag) : Reg where
  Δ := Addr × Option HO
  S := List Int
  D := fun δ a => a = δ.1 ∧ δ.2 ≠ none
  St := fun δ s H => (δ.2 = none → ∀ H', SqL K H' δ.1 (s.map V.int)) ∧ (∀ o, δ.2 = some o → H δ.1 = some o ∧ (o = .lst (s.map V.int) ∨ ∃ b, o = .frz b (.lst (s.map V.int)))) ∧ s.length ≤ 63
  lk := fun δ => .ref δ.1
  frame := fun δ s H H' ⟨h1, h2, h3⟩ k => ⟨h1, fun o ho => ⟨by rw [k δ.1 ⟨rfl, by rw [ho]; simp⟩]; exact (h2 o ho).1, (h2 o ho).2⟩, h3⟩
  occ := fun δ s H a ⟨_, h2, _⟩ d => by
    cases q : δ.2 with
    | none => exact absurd q d.2
    | some o => rw [d.1, (h2 o q).1]; simp
theorem sc_sq {K : PySem.W.Frag} {δ : Addr × Option HO} {s : List Int} {H : Hp} (st : (scR K).St δ s H) : SqL K H δ.1 (s.map V.int) := by
  cases q : δ.2 with
  | none => exact st.1 q H
  | some o =>
    obtain ⟨h1, h2⟩ := st.2.1 o q
    rcases h2 with rfl | ⟨b, rfl⟩
    · exact .inl (.inl h1)
    · exact .inl (.inr ⟨b, h1⟩)
section
variable {P : Program} {w : World} {K : PySem.W.Frag} {mg : Str → Option Value} {base : Heap}
theorem st_script {H : Hp} {a : Addr} {ns : List Int} (h : SqL K H a (ns.map V.int)) (hl : ns.length ≤ 63) : ∃ b, (scR K).St (a, b) ns H := by
  rcases h with (h | ⟨o, h⟩) | h
  · exact ⟨some (.lst (ns.map V.int)), fun z => (by cases z), fun o ho => (by cases ho; exact ⟨h, .inl rfl⟩), hl⟩
  · exact ⟨some (.frz o (.lst (ns.map V.int))), fun z => (by cases z), fun o' ho => (by cases ho; exact ⟨h, .inr ⟨o, rfl⟩⟩), hl⟩
  · exact ⟨none, fun _ H' => .inr h, fun o z => (by cases z), hl⟩
section
variable {C : Cx → Prop} {N : List Str} {sc : Scope} {k : Nat} {top : Bool} {i : Nat}
def nScript : EN (List Int) := fun _ s W => W (.list (s.map .int)) s
theorem cut63 (l : List Int) (hl0 : l.length ≤ 63) : cutV (l.map V.int) none (some 63) = l.map V.int := by
  have hl : (l.map V.int).length ≤ 63 := by rw [List.length_map]; exact hl0
  have h1 : HT.sIx (l.map V.int).length (l.map V.int).length (some 63) = (l.map V.int).length := by
    unfold HT.sIx
    show (if (63 : Int) < 0 then _ else min (63 : Int).toNat (l.map V.int).length) = _
    rw [if_neg (by decide)]
    exact Nat.min_eq_right hl
  unfold cutV
  rw [h1]
  show List.take ((l.map V.int).length - 0) (List.drop 0 (l.map V.int)) = _
  rw [Nat.sub_zero, List.drop_zero, List.take_length]
theorem pn_script (Z : Fam C P w K mg base N sc k top) {x : Str} {px p2 pos pc : Pos} {j} (h : okV N sc i x = true) : PEn C K (scR K) i (.Subscript (.Name x px) (.Slice none (some (.Constant (.int 63) j pc)) none p2) pos) nScript := by
  refine ⟨tSl (rSlL K) (tVar i) tNoPart (tPart (tC (.int 63))), fun X c => by have := pe_slice (p2 := p2) (pos := pos) (sl_list (X := X)) (pe_lk (pos := px) Z h c) po_none (po_some (pe_int (j := j) (pos := pc) (i := 63))); rw [Z.K_ X c] at this; exact this, fun δ F H σ ρ s W R st hr Q q => ?_⟩
  refine ⟨.ref δ.1, R.lk, 63, rfl, δ.1, s.map V.int, rfl, sc_sq st, fun p hp => ?_⟩
  have e : cutV (List.map V.int (id (α := List Int) s)) none (some 63) = List.map V.int (id (α := List Int) s) := cut63 _ st.2.2
  show Q (.ref p) (upd H p (.lst (cutV (List.map V.int (id (α := List Int) s)) none (some 63))))
  rw [e]
  exact q _ _ s (upd F p (.lst (s.map V.int))) _ hr (Aft.pure st (same_upd hp) (gr_upd R.r.ex hp) (same_updB R.r.ex)) (.lst upd_same (rp_ints _))
/-- a list walked -/
def nAList {S : Type} (a : EN S) : AN S := fun ρ s W => a ρ s fun d s1 => ∃ ds, d = .list ds ∧ W ds s1
theorem pin_listN {G : Reg} (Z : Fam C P w K mg base N sc k top) {tg l : Expr} {a : EN G.S} (h : PEn C K G i l a) : PIn C K G i tg l (nAList a) := by
  obtain ⟨t, h, sd⟩ := h.ex
  refine ⟨iList K t, fun X c => by have := pi_list (tg := tg) (h X c); rw [Z.K_ X c] at this; exact this, fun δ F H σ ρ s W R st hr Q q => ?_⟩
  refine sd δ F H σ ρ s _ R st hr _ fun v d s1 F1 H1 hw a1 r1 => ?_
  obtain ⟨ds, rfl, hw⟩ := hw
  obtain ⟨p, vs, rfl, h1, h2⟩ := rp_lst r1
  have f1 := a1.ex
  refine ⟨p, rfl, ⟨vs, .inl (.inl (f1 _ _ h1))⟩, q _ ds s1 F1 H1 hw a1 ⟨fun i H s hl => ⟨vs, .inl (.inl (s _ _ h1)), by rw [h2.length]; exact hl⟩, fun i H d s hd => ?_, fun i Fi H d x H' s1 s2 hd hy => ?_⟩⟩
  · obtain ⟨v, hv, _⟩ := h2.get hd
    exact ⟨vs, v, .inl (.inl (s _ _ h1)), hv⟩
  · obtain ⟨rfl, hy⟩ := hy
    obtain ⟨v, hv, rv⟩ := h2.get hd
    have e := hy vs (.inl (.inl (s2 _ _ (s1 _ _ h1))))
    rw [hv] at e
    cases e
    exact ⟨Same.refl _, Fi, Gr.refl _ _, s2, Rp.mono s1 _ _ rv⟩
end
/-! ### _law_deck -/
abbrev ND : List Str := ["script", "cells", "blend", "cell"]
theorem scD : FnScope ND ["script"] (defScope s__law_deck) := ⟨rfl, rfl, rfl, by decide +kernel, rfl, by decide +kernel, by decide +kernel⟩
def spDeck (K : PySem.W.Frag) : Sp := fun vs H Q _ => ∃ (a : Addr) (ns : List Int), vs = [.ref a] ∧ SqL K H a (ns.map V.int) ∧ ns.length ≤ 63 ∧
  ∀ H' p c s, Same H H' → H p = none → H c = none → deckR.St (p, c) s H' → s.drawn = 0 → Q (.ref p) H'
def bD1 : BN (List Int) := nParS 1 2 (nCons (nLc (nLcA (nAList nScript) (gN 3) (nL (rA fInt (aCons (rVar 3) aNil))) [3])) (nCons (nL (rC (.int 3573))) nNil))
def bD2 : BN (List Int) := nFor (nAL (aList (rVar 1))) (gN 3) (nAsg (gN 2) (nL (rE2 fMod (rE2 fAdd (rE2 fAdd (rE2 fMul (rVar 2) (rC (.int 48271))) (rE2 fMod (rVar 3) (rC (.int 2147483629)))) (rC (.int 23))) (rC (.int 2147483587)))))
def stD (j : Nat) : Stmt := (defBody s__law_deck).getD j (.Pass ⟨0, 0, 0, 0⟩)
theorem wD1 (T : Tp K w mg) {C : Cx → Prop} {k : Nat} (Z : Fam C P w K mg base ND (defScope s__law_deck) k true) : PSn C K (scR K) 0 (stD 0) bD1 :=
  psn_par Z 1 2 rfl rfl (by decide) (by decide) (by decide) (by decide +kernel) (by decide +kernel)
    (pan_cons (pn_lc Z [("cell", 3)] (tgAt_n 3) (pin_listN Z (pn_script Z (by decide +kernel))) (pgd_name (Z.blk _) 3 (by decide +kernel)) (pn_lift (pd_ct (Z.blk _) (fun _ _ => call_intA) oc_int T.n_int (by decide +kernel) (pad_cons (pd_var (Z.blk _) 3 (by decide +kernel)) pad_nil) (by decide +kernel))) (by decide +kernel) (by decide +kernel) (by decide +kernel)) (pan_cons (pn_lift pd_int) pan_nil)) (fun env he => swp2 he)
theorem wD2 (T : Tp K w mg) {C : Cx → Prop} {k : Nat} (Z : Fam C P w K mg base ND (defScope s__law_deck) k true) : PSn C K (scR K) 0 (stD 1) bD2 :=
  psn_for Z (offI_n (by decide)) (pin_list Z (pd_var Z 1 (by decide +kernel))) (pgd_name Z 3 (by decide +kernel))
    (psn_one (psn_set Z 2 (by decide) (pn_lift (pd_bin (fun _ _ => op_modN) o2_mod (pd_bin (fun _ _ => op_addA) o2_addA (pd_bin (fun _ _ => op_addA) o2_addA (pd_bin (fun _ _ => op_mul) o2_mul (pd_var Z 2 (by decide +kernel)) pd_int) (pd_bin (fun _ _ => op_modN) o2_mod (pd_var Z 3 (by decide +kernel)) pd_int)) pd_int) pd_int)) (by decide +kernel)))
theorem lcD_run {s : List Int} {ρ : Sl} (hρ : ρ.length = 4) : ∀ (l : List Int) (W : List PyData → List Int → Prop), W (l.map .int) s → lcN (gN 3) (nL (rA fInt (aCons (rVar 3) aNil))) ρ (l.map .int) s W
  | [], W, h => h
  | a :: l, W, h => by
    refine ⟨[(3, .int a)], rfl, .int a, ?_, lcD_run hρ l _ h⟩
    have e : (setD ρ [(3, PyData.int a)])[3]? = some (some (.vl (.int a))) := by
      show (ρ.set 3 (some (.vl (.int a))))[3]? = _
      rw [List.getElem?_set_self (by omega)]
    show (aCons (rVar 3) aNil (setD ρ [(3, PyData.int a)])).bind fInt = some (.int a)
    unfold aCons rVar
    rw [e]
    rfl
theorem forD_run {s : List Int} : ∀ (l : List Int) (ρ : Sl) (b : Int) (W : Fl → List Int → Prop), ρ.length = 4 → ρ[2]? = some (some (.vl (.int b))) → (∀ ρ' b', ρ'[1]? = ρ[1]? → ρ'[2]? = some (some (.vl (.int b'))) → W (.nx ρ') s) →
    forN (gN 3) (nAsg (gN 2) (nL (rE2 fMod (rE2 fAdd (rE2 fAdd (rE2 fMul (rVar 2) (rC (.int 48271))) (rE2 fMod (rVar 3) (rC (.int 2147483629)))) (rC (.int 23))) (rC (.int 2147483587))))) (l.map .int) ρ s W
  | [], ρ, b, W, hl, hb, h => h ρ b rfl hb
  | a :: l, ρ, b, W, hl, hb, h => by
    refine ⟨[(3, .int a)], rfl, .int (Int.fmod (b * 48271 + Int.fmod a 2147483629 + 23) 2147483587), ?_, [(2, .int (Int.fmod (b * 48271 + Int.fmod a 2147483629 + 23) 2147483587))], rfl, ?_⟩
    · have e2 : (setD ρ [(3, PyData.int a)])[2]? = some (some (.vl (.int b))) := by
        show (ρ.set 3 (some (.vl (.int a))))[2]? = _
        rw [List.getElem?_set_ne (by decide)]; exact hb
      have e3 : (setD ρ [(3, PyData.int a)])[3]? = some (some (.vl (.int a))) := by
        show (ρ.set 3 (some (.vl (.int a))))[3]? = _
        rw [List.getElem?_set_self (by omega)]
      have v2 : rVar 2 (setD ρ [(3, PyData.int a)]) = some (.int b) := by unfold rVar; rw [e2]
      have v3 : rVar 3 (setD ρ [(3, PyData.int a)]) = some (.int a) := by unfold rVar; rw [e3]
      have m1 : rE2 fMul (rVar 2) (rC (.int 48271)) (setD ρ [(3, PyData.int a)]) = some (.int (b * 48271)) := by
        unfold rE2
        rw [v2]
        show fMul (.int b) (.int 48271) = _
        unfold fMul fIc
        simp
      have m2 : rE2 fMod (rVar 3) (rC (.int 2147483629)) (setD ρ [(3, PyData.int a)]) = some (.int (Int.fmod a 2147483629)) := by
        unfold rE2
        rw [v3]
        rfl
      have m3 : rE2 fAdd (rE2 fMul (rVar 2) (rC (.int 48271))) (rE2 fMod (rVar 3) (rC (.int 2147483629))) (setD ρ [(3, PyData.int a)]) = some (.int (b * 48271 + Int.fmod a 2147483629)) := by
        show (rE2 fMul (rVar 2) (rC (.int 48271)) (setD ρ [(3, PyData.int a)])).bind (fun x => (rE2 fMod (rVar 3) (rC (.int 2147483629)) (setD ρ [(3, PyData.int a)])).bind fun y => fAdd x y) = _
        rw [m1, m2]
        rfl
      show ((rE2 fAdd (rE2 fAdd (rE2 fMul (rVar 2) (rC (.int 48271))) (rE2 fMod (rVar 3) (rC (.int 2147483629)))) (rC (.int 23))) (setD ρ [(3, PyData.int a)])).bind (fun x => (rC (.int 2147483587) (setD ρ [(3, PyData.int a)])).bind fun y => fMod x y) = _
      have m4 : rE2 fAdd (rE2 fAdd (rE2 fMul (rVar 2) (rC (.int 48271))) (rE2 fMod (rVar 3) (rC (.int 2147483629)))) (rC (.int 23)) (setD ρ [(3, PyData.int a)]) = some (.int (b * 48271 + Int.fmod a 2147483629 + 23)) := by
        show (rE2 fAdd (rE2 fMul (rVar 2) (rC (.int 48271))) (rE2 fMod (rVar 3) (rC (.int 2147483629))) (setD ρ [(3, PyData.int a)])).bind (fun x => (rC (.int 23) (setD ρ [(3, PyData.int a)])).bind fun y => fAdd x y) = _
        rw [m3]
        rfl
      rw [m4]
      rfl
    · refine forD_run l _ (Int.fmod (b * 48271 + Int.fmod a 2147483629 + 23) 2147483587) W ?_ ?_ fun ρ' b' h1 h2 => h ρ' b' ?_ h2
      · show ((ρ.set 3 _).set 2 _).length = 4
        simp [hl]
      · show ((ρ.set 3 _).set 2 (some (.vl (.int _))))[2]? = _
        rw [List.getElem?_set_self (by simp [hl])]
      · rw [h1]
        show ((ρ.set 3 _).set 2 _)[1]? = _
        rw [List.getElem?_set_ne (by decide), List.getElem?_set_ne (by decide)]
def tDispD (K : PySem.W.Frag) : TE := tDisp [(tC (.str "cells"), tRevL K (tVar 1)), (tC (.str "blend"), tVar 2), (tC (.str "drawn"), tC (.int 0))]
theorem c_deck (T : Tp K w mg) : ∃ f fd, mg "_law_deck" = some (.ref f) ∧ PySem.W.keepIn K (.ref f) = true ∧ FnOk P w K mg base CX0 1 f fd ["script"] (spDeck K) ∧ Binds K fd ["script"] [] := by
  obtain ⟨f, fd, hm, F⟩ := T.f__law_deck
  refine ⟨f, fd, hm, F.kp, ?_, F.bindsN fun _ _ _ _ _ _ us hl => match us, hl with | [_], _ => rfl⟩
  have Z := fam_bod (P := P) (w := w) (K := K) (mg := mg) (base := base) (qual := "_law_deck") (f := f) (k := 0) (sc := defScope s__law_deck) (N := ND) scD.nd
  obtain ⟨t1, h1, s1⟩ := (wD1 T Z).ex
  obtain ⟨t2, h2, s2⟩ := (wD2 T Z).ex
  refine F.ok (k := 0) scD (fun vs H Q E h => ?_) (fun cdv A outer s H vs Q E hr h => ⟨tSeq t1 (tSeq t2 (tRet (tDispD K))), PSs.nox ?_, ?_⟩)
  · obtain ⟨a, ns, rfl, _⟩ := h
    rfl
  · exact pss_cons (h1 _ ⟨cdv, A, outer, s, H, E, hr, rfl⟩) (pss_cons (h2 _ ⟨cdv, A, outer, s, H, E, hr, rfl⟩) (pss_one (ps_ret (pe_disp (pps_cons pe_str (pe_revL (pv 1)) (pps_cons pe_str (pv 2) (pps_cons pe_str pe_int pps_nil))) (by rfl) (by rfl) (fun z => by cases z) (by decide)))))
  · obtain ⟨a, ns, rfl, hS, hl, q⟩ := h
    obtain ⟨b, st⟩ := st_script hS hl
    -- nothing stays but what is new: F is empty
    let F0 : Hp := fun _ => none
    have RN : RelSN (scR K) (a, b) 0 K F0 (butD ((scR K).D (a, b)) H) F0 H (L2.start ND [V.ref a]) [none, none, none, none] := by
      have no : ∀ {j : Nat} {c : Cell}, ([none, none, none, none] : Sl)[j]? = some (some c) → False := fun {j c} ej => by
        rcases j with _ | _ | _ | _ | j
        · cases ej
        · cases ej
        · cases ej
        · cases ej
        · simp at ej
      exact ⟨⟨⟨rfl, fun x o e => (by cases e), fun j c ej => (no ej).elim, fun j kk d1 d2 a ne e1 e2 => (no e1).elim⟩, fun _ _ => rfl, fun j d1 a e1 => (no e1).elim, rfl, rfl⟩, fun x o e1 => (butD_some e1).2, Gr.refl _ _, fun j d1 a e1 => (no e1).elim, fun a d => butD_in d⟩
    refine s1 (a, b) F0 _ F0 H _ _ ns (fun fl s' => ns = s' ∧ ∃ ρ, fl = .nx ρ ∧ ρ.length = 4 ∧ ρ[1]? = some (some (.vl (.list (ns.map .int)))) ∧ ρ[2]? = some (some (.vl (.int 3573)))) _ RN st ?_ fun fl s' hw => ?_
    · refine ⟨ns.map .int, rfl, by rw [List.length_map]; omega, lcD_run (by rfl) ns _ ?_⟩
      exact ⟨_, rfl, .list (ns.map .int), .int 3573, rfl, rfl, _, rfl, rfl, rfl, rfl⟩
    · obtain ⟨rfl, ρ, rfl, hρ, h11, h12⟩ := hw
      intro σ F1 H1 R1 st1
      refine s2 (a, b) F0 _ F1 H1 _ _ ns (fun fl s'' => ns = s'' ∧ ∃ ρ' b', fl = .nx ρ' ∧ ρ'[1]? = some (some (.vl (.list (ns.map .int)))) ∧ ρ'[2]? = some (some (.vl (.int b')))) _ R1 st1 ?_ fun fl s'' hw => ?_
      · refine ⟨ns.map .int, ?_, forD_run ns ρ 3573 _ hρ h12 fun ρ' b' e1 e2 => ⟨rfl, ρ', b', rfl, by rw [e1]; exact h11, e2⟩⟩
        unfold aList rVar
        rw [h11]
      · obtain ⟨rfl, ρ', b', rfl, e1, e2⟩ := hw
        intro σ2 F2 H2 R2 st2
        obtain ⟨v1, hv1, r1⟩ := R2.n.r.vl e1
        obtain ⟨v2, hv2, r2⟩ := R2.n.r.vl e2
        obtain ⟨l, us, rfl, hl1, hl2⟩ := rp_lst r1
        have hu : us = ns.map V.int := by
          have : ∀ (ns : List Int) (us : List V), RpAll K F2 us (ns.map .int) → us = ns.map V.int := fun ns => by
            induction ns with
            | nil => intro us h; cases h; rfl
            | cons n ns ih =>
              intro us h
              cases h with
              | cons h1 h2 =>
                cases h1
                rw [ih _ h2]
                rfl
          exact this _ _ hl2
        subst hu
        have hv := rp_int r2
        subst hv
        refine fun p hp => ?_
        have n1 : l ≠ p := fun z => by subst z; rw [R2.n.r.ex _ _ hl1] at hp; cases hp
        refine ⟨_, hv1, l, ns.map V.int, rfl, .inl (.inl (by rw [upd_ne n1]; exact R2.n.r.ex _ _ hl1)), fun c hc => ?_⟩
        have n2 : c ≠ p := fun z => by subst z; rw [upd_same] at hc; cases hc
        have hc0 : H2 c = none := by rw [upd_ne n2] at hc; exact hc
        refine ⟨_, hv2, ?_⟩
        refine ⟨by rw [upd_ne (Ne.symm n2), upd_same], [(.inr "cells", .ref c), (.inr "blend", .int b'), (.inr "drawn", .int 0)], rfl, (by show 3 ≤ 15; decide), ?_⟩
        have sH : Same H H2 := fun x o hx => by
          by_cases d : (scR K).D (a, b) x
          · obtain ⟨d1, d2⟩ := d
            cases hb : b with
            | none => exact absurd hb d2
            | some ob =>
              have e1 := (st.2.1 ob hb).1
              have e2 := (st2.2.1 ob hb).1
              rw [d1] at hx ⊢
              rw [e2, ← e1]
              exact hx
          · exact R2.sb x o (by rw [butD_out d]; exact hx)
        refine q _ p c ⟨ns.reverse, b', 0⟩ (fun x o hx => ?_) (sH.free hp) (sH.free hc0) ⟨Ne.symm n2, ?_, ?_, ?_⟩ rfl
        · have m1 : x ≠ p := fun z => by subst z; rw [sH _ _ hx] at hp; cases hp
          have m2 : x ≠ c := fun z => by subst z; rw [sH _ _ hx] at hc0; cases hc0
          rw [upd_ne m1, upd_ne m2, upd_ne m1]
          exact sH _ _ hx
        · rw [upd_same]
          rfl
        · rw [upd_ne n2, upd_same, List.map_reverse]
        · rw [List.length_reverse]
          exact st2.2.2
end
end K73

set_option maxHeartbeats 2000000
namespace K73
open PySem PySem.Spec PyProof.Rows L2 Pd
section
variable {P : Program} {w : World} {K : PySem.W.Frag} {mg : Str → Option Value} {base : Heap}
abbrev N__law_is_requirement_right : List Str := ["program", "it", "told", "due", "text", "kept"]
theorem sc__law_is_requirement_right : FnScope N__law_is_requirement_right ["program", "it"] (defScope s__law_is_requirement_right) := ⟨rfl, rfl, rfl, by decide +kernel, rfl, by decide +kernel, by decide +kernel⟩
def b__law_is_requirement_right (pf : Str → Option PyData) : B1 := sSeq (sPar 4 5 (aCons (rCall 1 m__law_requirement_text (aCons (rVar 1) (aNil))) (aCons (rE1 fRepr (rVar 1)) (aNil)))) (sSeq (sAsg (gN 2) (rA mkLst (aCons (rCall 1 m_show_requirement (aCons (rVar 1) (aNil))) (aCons (rCallK (["requirement"] : List Str).length false m_show_requirement (aCons (rVar 1) (aNil))) (aCons (rCall 2 m_is_requirement (aCons (rVar 0) (aCons (rVar 1) (aNil)))) (aNil)))))) (sSeq (sIf (tOrD (tNotD (tVal (rCall 2 (m__law_same 14) (aCons (rVar 2) (aCons (rA mkLst (aCons (rVar 4) (aCons (rVar 4) (aCons (rC (.bool true)) (aNil))))) (aNil)))))) (tVal (rE2 fNe (rE1 fRepr (rVar 1)) (rVar 5)))) (sRet (rC (.bool false))) (sNext)) (sSeq (sAsg (gN 3) (rCall 1 m__law_read_back (aCons (rVar 1) (aNil)))) (sSeq (sAsg (gN 2) (rA mkLst (aCons (rCall 2 (m_read_requirement pf) (aCons (rVar 0) (aCons (rVar 4) (aNil)))) (aCons (rCallK (["program", "thing"] : List Str).length true (m_read_requirement pf) (aCons (rVar 4) (aCons (rVar 0) (aNil)))) (aNil))))) (sRet (rAnd (rCall 2 (m__law_same 14) (aCons (rVar 2) (aCons (rA mkLst (aCons (rVar 3) (aCons (rVar 3) (aNil)))) (aNil)))) (rCall 2 (m__law_same 14) (aCons (rCall 1 m_show_requirement (aCons (rVar 3) (aNil))) (aCons (rVar 4) (aNil))))))))))
def m__law_is_requirement_right (pf : Str → Option PyData) : List PyData → Option PyData := runB 6 (b__law_is_requirement_right pf)
theorem c__law_is_requirement_right (T : Tp K w mg) (pf : Str → Option PyData) (hp : ∀ t d, pf t = some d → t.length ≤ 16777216 ∧ Parses t d) : CalG P w K mg base 63 "_law_is_requirement_right" 2 (m__law_is_requirement_right pf) := calG_of (k := 62) (ps := ["program", "it"]) (nN := 6) (b := b__law_is_requirement_right pf) T.f__law_is_requirement_right sc__law_is_requirement_right rfl rfl (fun _ _ _ _ _ _ us hl => match us, hl with | [_, _], _ => rfl) fun f Z hgd =>
  pss1_cons (ps1_par Z 4 5 rfl rfl (by decide) (by decide +kernel) (by decide +kernel) (pad_cons (pd_call Z (c__law_requirement_text T) (by omega) (pad_cons (pd_var Z 1 (by decide +kernel)) (pad_nil)) (by decide +kernel)) (pad_cons (pd_repr Z hgd (pd_var Z 1 (by decide +kernel)) T.n_repr (by decide +kernel)) (pad_nil))) (fun env he => swp2 he)) (pss1_cons (ps1_set Z 2 (pd_lst (pad_cons (pd_call Z (c_show_requirement T) (by omega) (pad_cons (pd_var Z 1 (by decide +kernel)) (pad_nil)) (by decide +kernel)) (pad_cons (pd_callK (ks := ["requirement"]) false Z (ck_show_requirement T) T.f_show_requirement (by omega) (pkd_cons (pd_var Z 1 (by decide +kernel)) (pkd_nil)) (by decide +kernel) (fun _ _ _ _ _ _ ws hl => match ws, hl with | [_], _ => rfl)) (pad_cons (pd_call Z (c_is_requirement T) (by omega) (pad_cons (pd_var Z 0 (by decide +kernel)) (pad_cons (pd_var Z 1 (by decide +kernel)) (pad_nil))) (by decide +kernel)) (pad_nil))))) (by decide +kernel)) (pss1_cons (ps1_if (PWd.pt (pwd_or (ptd_not (ptd_val (pd_call Z (c__law_same T 14) (by omega) (pad_cons (pd_var Z 2 (by decide +kernel)) (pad_cons (pd_lst (pad_cons (pd_var Z 4 (by decide +kernel)) (pad_cons (pd_var Z 4 (by decide +kernel)) (pad_cons (pd_bl) (pad_nil))))) (pad_nil))) (by decide +kernel)))) (pwd_or1 (ptd_cmp (zNe Z) o2_ne (pd_repr Z hgd (pd_var Z 1 (by decide +kernel)) T.n_repr (by decide +kernel)) (pd_var Z 5 (by decide +kernel)) (by rfl))))) (pss1_one (ps1_ret (pd_bl))) (pss1_nil)) (pss1_cons (ps1_set Z 3 (pd_call Z (c__law_read_back T) (by omega) (pad_cons (pd_var Z 1 (by decide +kernel)) (pad_nil)) (by decide +kernel)) (by decide +kernel)) (pss1_cons (ps1_set Z 2 (pd_lst (pad_cons (pd_call Z (c_read_requirement T pf hp) (by omega) (pad_cons (pd_var Z 0 (by decide +kernel)) (pad_cons (pd_var Z 4 (by decide +kernel)) (pad_nil))) (by decide +kernel)) (pad_cons (pd_callK (ks := ["thing", "program"]) true Z (ck_read_requirement T pf hp) T.f_read_requirement (by omega) (pkd_cons (pd_var Z 4 (by decide +kernel)) (pkd_cons (pd_var Z 0 (by decide +kernel)) (pkd_nil))) (by decide +kernel) (fun _ _ _ _ _ _ ws hl => match ws, hl with | [_, _], _ => rfl)) (pad_nil)))) (by decide +kernel)) (pss1_one (ps1_ret (pd_and (pd_call Z (c__law_same T 14) (by omega) (pad_cons (pd_var Z 2 (by decide +kernel)) (pad_cons (pd_lst (pad_cons (pd_var Z 3 (by decide +kernel)) (pad_cons (pd_var Z 3 (by decide +kernel)) (pad_nil)))) (pad_nil))) (by decide +kernel)) (pd_one (pd_call Z (c__law_same T 14) (by omega) (pad_cons (pd_call Z (c_show_requirement T) (by omega) (pad_cons (pd_var Z 3 (by decide +kernel)) (pad_nil)) (by decide +kernel)) (pad_cons (pd_var Z 4 (by decide +kernel)) (pad_nil))) (by decide +kernel))))))))))
abbrev N__law_is_box_right : List Str := ["program", "it", "text", "told"]
theorem sc__law_is_box_right : FnScope N__law_is_box_right ["program", "it"] (defScope s__law_is_box_right) := ⟨rfl, rfl, rfl, by decide +kernel, rfl, by decide +kernel, by decide +kernel⟩
def b__law_is_box_right : B1 := sSeq (sAsg (gN 2) (rCall 1 m__law_box_text (aCons (rVar 1) (aNil)))) (sSeq (sAsg (gN 3) (rA mkLst (aCons (rCall 1 m_show_box (aCons (rVar 1) (aNil))) (aCons (rCallK (["box"] : List Str).length false m_show_box (aCons (rVar 1) (aNil))) (aCons (rCall 2 m_is_box (aCons (rVar 0) (aCons (rVar 1) (aNil)))) (aCons (rCallK (["program", "thing"] : List Str).length true m_is_box (aCons (rVar 1) (aCons (rVar 0) (aNil)))) (aNil))))))) (sSeq (sIf (tNotD (tVal (rCall 2 (m__law_same 14) (aCons (rVar 3) (aCons (rA mkLst (aCons (rVar 2) (aCons (rVar 2) (aCons (rC (.bool true)) (aCons (rC (.bool true)) (aNil)))))) (aNil)))))) (sRet (rC (.bool false))) (sNext)) (sRet (rCall 2 (m__law_same 14) (aCons (rA mkLst (aCons (rCall 2 m_read_box (aCons (rVar 0) (aCons (rVar 2) (aNil)))) (aCons (rCallK (["program", "thing"] : List Str).length true m_read_box (aCons (rVar 2) (aCons (rVar 0) (aNil)))) (aNil)))) (aCons (rA mkLst (aCons (rVar 1) (aCons (rVar 1) (aNil)))) (aNil)))))))
def m__law_is_box_right : List PyData → Option PyData := runB 4 b__law_is_box_right
theorem c__law_is_box_right (T : Tp K w mg) : Cal P w K mg base 15 "_law_is_box_right" 2 m__law_is_box_right := cal_of (k := 14) (ps := ["program", "it"]) (nN := 4) (b := b__law_is_box_right) T.f__law_is_box_right sc__law_is_box_right rfl rfl (fun _ _ _ _ _ _ us hl => match us, hl with | [_, _], _ => rfl) fun f Z =>
  pss1_cons (ps1_set Z 2 (pd_call Z (c__law_box_text T) (by omega) (pad_cons (pd_var Z 1 (by decide +kernel)) (pad_nil)) (by decide +kernel)) (by decide +kernel)) (pss1_cons (ps1_set Z 3 (pd_lst (pad_cons (pd_call Z (c_show_box T) (by omega) (pad_cons (pd_var Z 1 (by decide +kernel)) (pad_nil)) (by decide +kernel)) (pad_cons (pd_callK (ks := ["box"]) false Z (ck_show_box T) T.f_show_box (by omega) (pkd_cons (pd_var Z 1 (by decide +kernel)) (pkd_nil)) (by decide +kernel) (fun _ _ _ _ _ _ ws hl => match ws, hl with | [_], _ => rfl)) (pad_cons (pd_call Z (c_is_box T) (by omega) (pad_cons (pd_var Z 0 (by decide +kernel)) (pad_cons (pd_var Z 1 (by decide +kernel)) (pad_nil))) (by decide +kernel)) (pad_cons (pd_callK (ks := ["thing", "program"]) true Z (ck_is_box T) T.f_is_box (by omega) (pkd_cons (pd_var Z 1 (by decide +kernel)) (pkd_cons (pd_var Z 0 (by decide +kernel)) (pkd_nil))) (by decide +kernel) (fun _ _ _ _ _ _ ws hl => match ws, hl with | [_, _], _ => rfl)) (pad_nil)))))) (by decide +kernel)) (pss1_cons (ps1_if (ptd_not (ptd_val (pd_call Z (c__law_same T 14) (by omega) (pad_cons (pd_var Z 3 (by decide +kernel)) (pad_cons (pd_lst (pad_cons (pd_var Z 2 (by decide +kernel)) (pad_cons (pd_var Z 2 (by decide +kernel)) (pad_cons (pd_bl) (pad_cons (pd_bl) (pad_nil)))))) (pad_nil))) (by decide +kernel)))) (pss1_one (ps1_ret (pd_bl))) (pss1_nil)) (pss1_one (ps1_ret (pd_call Z (c__law_same T 14) (by omega) (pad_cons (pd_lst (pad_cons (pd_call Z (c_read_box T) (by omega) (pad_cons (pd_var Z 0 (by decide +kernel)) (pad_cons (pd_var Z 2 (by decide +kernel)) (pad_nil))) (by decide +kernel)) (pad_cons (pd_callK (ks := ["thing", "program"]) true Z (ck_read_box T) T.f_read_box (by omega) (pkd_cons (pd_var Z 2 (by decide +kernel)) (pkd_cons (pd_var Z 0 (by decide +kernel)) (pkd_nil))) (by decide +kernel) (fun _ _ _ _ _ _ ws hl => match ws, hl with | [_, _], _ => rfl)) (pad_nil)))) (pad_cons (pd_lst (pad_cons (pd_var Z 1 (by decide +kernel)) (pad_cons (pd_var Z 1 (by decide +kernel)) (pad_nil)))) (pad_nil))) (by decide +kernel))))))
end
end K73

set_option maxHeartbeats 2000000
namespace K73
open PySem PySem.Spec PyProof.Rows L2 Pd
section
variable {P : Program} {w : World} {K : PySem.W.Frag} {mg : Str → Option Value} {base : Heap}
abbrev NMs : List Str := ["deck", "found", "k", "number", "name"]
theorem scMs : FnScope NMs ["deck"] (defScope s__law_measure) := ⟨rfl, rfl, rfl, by decide +kernel, rfl, by decide +kernel, by decide +kernel⟩
def stM (j : Nat) : Stmt := (defBody s__law_measure).getD j (.Pass ⟨0, 0, 0, 0⟩)
def inFor (st : Stmt) (j : Nat) : Stmt := match st with
  | .For _ _ body _ _ => body.getD j (.Pass ⟨0, 0, 0, 0⟩)
  | s => s
/-- number = _law_number(deck) -/
def eM1 : EN Dk := nCall 0 m__law_number (nAL aNil)
def numM : Expr := match inFor (stM 1) 0 with
  | .Assign _ e _ => e
  | _ => .Constant .none 0 ⟨0, 0, 0, 0⟩
theorem wM1 (T : Tp K w mg) {C : Cx → Prop} {k : Nat} (hk : 3 ≤ k) (Z : Fam C P w K mg base NMs (defScope s__law_measure) k true) : ∃ tn, (∀ X, C X → PS X (inFor (stM 1) 0) (tAsg tn (gName 3))) ∧ SndE deckR 0 K tn eM1 := by
  have h1 : PEn C K deckR 0 numM eM1 := pn_call Z (c__law_number T) (by omega) (pan_lift pad_nil) (by decide +kernel) (by decide +kernel)
  obtain ⟨tn, h1, s1⟩ := h1.ex
  exact ⟨tn, fun X c => let z := okS_ok Z (i := 3) (x := "number") (by decide +kernel) c; ps_set (Z.ndX c) z.1 z.2.1 (h1 X c) (by rfl) z.2.2, s1⟩
/-- found[_law_name(deck)] = number if number != 0 else 1 -/
def eM2 : EN Dk := nL (rIf (tVal (rE2 fNe (rVar 3) (rC (.int 0)))) (rVar 3) (rC (.int 1)))
def eM3 : EN Dk := nCall 0 m__law_name (nAL aNil)
def valM : Expr := match inFor (stM 1) 1 with
  | .Assign _ e _ => e
  | _ => .Constant .none 0 ⟨0, 0, 0, 0⟩
def keyM : Expr := match inFor (stM 1) 1 with
  | .Assign [.Subscript _ e _] _ _ => e
  | _ => .Constant .none 0 ⟨0, 0, 0, 0⟩
theorem wM2 (T : Tp K w mg) {C : Cx → Prop} {k : Nat} (hk : 3 ≤ k) (Z : Fam C P w K mg base NMs (defScope s__law_measure) k true) : ∃ te ti, (∀ X, C X → PS X (inFor (stM 1) 1) (tAsg te (gSub (tVar 1) ti (sSetNk K w)))) ∧ SndE deckR 0 K te eM2 ∧ SndE deckR 0 K ti eM3 := by
  have h1 : PEn C K deckR 0 valM eM2 := pn_lift (pd_if (ptd_cmp (zNe Z) o2_ne (pd_var Z 3 (by decide +kernel)) pd_int (by rfl)) (pd_var Z 3 (by decide +kernel)) pd_int)
  have h2 : PEn C K deckR 0 keyM eM3 := pn_call Z (c__law_name T) (by omega) (pan_lift pad_nil) (by decide +kernel) (by decide +kernel)
  obtain ⟨te, h1, s1⟩ := h1.ex
  obtain ⟨ti, h2, s2⟩ := h2.ex
  refine ⟨te, ti, fun X c => ?_, s1, s2⟩
  have hs : PSet X (sSetNk K w) := by
    have := set_nk (X := X) (by have := Z.units c; omega)
    rw [Z.K_ X c, Z.wo X c] at this
    exact this
  exact ps_asg (h1 X c) (pg_sub (pe_ow Z (i := 1) (x := "found") (by decide +kernel) c) (h2 X c) hs)
/-- the slots as they stand within: k and number may hold data -/
def MsSl (ρ : Sl) : Prop := ∃ a b c : Option PyData, ρ = [none, none, a.map .vl, b.map .vl, c.map .vl]
theorem MsSl.no {ρ : Sl} (h : MsSl ρ) {j : Nat} {ds : List PyData} (e : ρ[j]? = some (some (.ow ds))) : False := by
  obtain ⟨a, b, c, rfl⟩ := h
  rcases j with _ | _ | _ | _ | _ | j
  · cases e
  · cases e
  · cases a <;> cases e
  · cases b <;> cases e
  · cases c <;> cases e
  · simp at e
/-- the dict at the slot found -/
structure Fnd (K : PySem.W.Frag) (F H : Hp) (σ : L2.St) (d : Addr) (m : List (NestedKey × Int × PyData)) : Prop where
  sl : σ[1]? = some (some (.ref d))
  hp : ∃ es ep, H d = some (rawD d es ep) ∧ NkAll K F es.toList m
  out : F d = none
  low : (d == sysModules) = false
theorem Fnd.aft {F F' H H' : Hp} {σ : L2.St} {d : Addr} {m : List (NestedKey × Int × PyData)} {δ : Addr × Addr} {s' : Dk} (J : Fnd K F H σ d m) (nd : ¬ deckR.D δ d) (a : Aft deckR δ F H s' F' H') : Fnd K F' H' σ d m := by
  obtain ⟨es, ep, h1, h2⟩ := J.hp
  refine ⟨J.sl, ⟨es, ep, a.sx d _ nd h1, NkAll.mono a.gr.1 h2⟩, ?_, J.low⟩
  cases q : F' d with
  | none => rfl
  | some o =>
    rcases a.gr.2 d o q with z | z
    · rw [J.out] at z; cases z
    · rw [h1] at z; cases z
theorem turn_M {tn te ti : TE} (h1 : SndE deckR 0 K tn eM1) (h2 : SndE deckR 0 K te eM2) (h3 : SndE deckR 0 K ti eM3) {δ : Addr × Addr} {F0 B F H : Hp} {σ : L2.St} {ρ : Sl} {s : Dk} {d : Addr} {m : List (NestedKey × Int × PyData)} {D : Ends}
    (R : RelSN deckR δ 0 K F0 B F H σ ρ) (st : deckR.St δ s H) (J : Fnd K F H σ d m) (nd : ¬ deckR.D δ d) (hB : B d = none) (fit : NkFit w m) (hm : m.length < 1000) (W' : Sl → NestedKey → PyData → Dk → Prop)
    (e : eM1 ρ s fun n s1 => eM2 (ρ.set 3 (some (.vl n))) s1 fun dv s2 => eM3 (ρ.set 3 (some (.vl n))) s2 fun dk s3 => ∃ (k : NestedKey) (ks : List NestedKey), dk = k.data ∧ k = .tup ks ∧ k.depth ≤ 8 ∧ W' (ρ.set 3 (some (.vl n))) k dv s3)
    (q : ∀ σ' F' H' ρ' s' k dv, W' ρ' k dv s' → RelSN deckR δ 0 K F0 B F' H' σ' ρ' → deckR.St δ s' H' → Fnd K F' H' σ' d (storeNk m k (k.hash w) dv) → D.nx σ' H') : tSeq (tAsg tn (gName 3)) (tAsg te (gSub (tVar 1) ti (sSetNk K w))) D σ H := by
  refine h1 δ F H σ ρ s _ R.n st e _ fun v n s1 F1 H1 hw a1 r1 => ?_
  have R1 : RelSN deckR δ 0 K F0 B F1 H1 (σ.set 3 (some v)) (ρ.set 3 (some (.vl n))) := (R.aft st a1).set (by decide) r1
  have J1 : Fnd K F1 H1 (σ.set 3 (some v)) d m := by
    have := J.aft nd a1
    exact ⟨by rw [List.getElem?_set_ne (by decide)]; exact this.sl, this.hp, this.out, this.low⟩
  refine h2 δ F1 H1 _ _ s1 _ R1.n a1.st hw _ fun v2 dv s2 F2 H2 hw2 a2 r2 => ?_
  have R2 := R1.aft a1.st a2
  have J2 := J1.aft nd a2
  refine ⟨.ref d, J2.sl, h3 δ F2 H2 _ _ s2 _ R2.n a2.st hw2 _ fun v3 dk s3 F3 H3 hw3 a3 r3 => ?_⟩
  have R3 := R2.aft a2.st a3
  have J3 := J2.aft nd a3
  obtain ⟨k, ks, rfl, rfl, hdep, hw3⟩ := hw3
  have r3' : Rp K F3 v3 (.tuple (NestedKey.datas ks)) := by simpa [NestedKey.data] using r3
  obtain ⟨b, us, rfl, _, _⟩ := rp_tup r3'
  obtain ⟨es, ep, j1, j2⟩ := J3.hp
  refine ⟨d, es, ep, F3, m, b, .tup ks, dv, rfl, rfl, a3.ex, j1, j2, fit, hm, r3, hdep, Rp.mono a3.gr.1 _ _ r2, fun es' ep' hall => ?_⟩
  have sF : Same F3 (upd H3 d (rawD d es' ep')) := fun a o ha => by
    have : a ≠ d := fun z => by subst z; rw [J3.out] at ha; cases ha
    rw [upd_ne this]; exact a3.ex a o ha
  refine q _ F3 _ _ s3 _ _ hw3 ⟨⟨⟨by rw [R3.n.r.len], sF, fun j c hc => ?_, R3.n.r.inj⟩, R3.n.av, R3.n.ow, R3.n.lk, R3.n.hid⟩, fun a o ha => ?_, R3.gr, R3.own, R3.avB⟩ (deckR.frame δ s3 H3 _ a3.st fun a da => ?_) ⟨J3.sl, ⟨es', ep', upd_same, hall⟩, J3.out, J3.low⟩
  · obtain ⟨u, hu, hcell⟩ := R3.n.r.cell j c hc
    refine ⟨u, hu, ?_⟩
    cases c with
    | vl dd => exact hcell
    | dk _ => exact hcell
    | fz _ => exact hcell
    | nk _ => exact hcell
    | ow ds =>
      obtain ⟨a, vs, e1, e2, e3, e4⟩ := hcell
      have : a ≠ d := fun z => by subst z; rw [j1] at e2; cases e2
      exact ⟨a, vs, e1, by rw [upd_ne this]; exact e2, e3, e4⟩
  · have : a ≠ d := fun z => by subst z; rw [hB] at ha; cases ha
    rw [upd_ne this]; exact R3.sb a o ha
  · have : a ≠ d := fun z => by subst z; exact nd da
    rw [upd_ne this]
end
end K73

set_option maxHeartbeats 2000000
namespace K73
open PySem PySem.Spec PyProof.Rows L2 Pd
section
variable {P : Program} {w : World} {K : PySem.W.Frag} {mg : Str → Option Value} {base : Heap}
abbrev NkM := List (NestedKey × Int × PyData)
/-- the turns of the loop of _law_measure -/
def forMs (w : World) : List PyData → Sl → Dk → NkM → (Sl → Dk → NkM → Prop) → Prop
  | [], ρ, s, m, W => W ρ s m
  | x :: r, ρ, s, m, W => NkFit w m ∧ m.length < 1000 ∧ eM1 (ρ.set 2 (some (.vl x))) s fun n s1 => eM2 ((ρ.set 2 (some (.vl x))).set 3 (some (.vl n))) s1 fun dv s2 => eM3 ((ρ.set 2 (some (.vl x))).set 3 (some (.vl n))) s2 fun dk s3 =>
      ∃ (k : NestedKey) (ks : List NestedKey), dk = k.data ∧ k = .tup ks ∧ k.depth ≤ 8 ∧ forMs w r ((ρ.set 2 (some (.vl x))).set 3 (some (.vl n))) s3 (storeNk m k (k.hash w) dv) W
def itM : Expr := match stM 1 with
  | .For _ it _ _ _ => it
  | _ => .Constant .none 0 ⟨0, 0, 0, 0⟩
def tgM : Expr := match stM 1 with
  | .For tg _ _ _ _ => tg
  | _ => .Constant .none 0 ⟨0, 0, 0, 0⟩
def srcM : AN Dk := nRange (nE2 fAdd (nL (rC (.int 1))) (nCall 1 m__law_draw (nAL (aCons (rC (.int 4)) aNil))))
theorem wSrc (T : Tp K w mg) {C : Cx → Prop} {k : Nat} (hk : 3 ≤ k) (Z : Fam C P w K mg base NMs (defScope s__law_measure) k true) : PIn C K deckR 0 tgM itM srcM :=
  pin_range Z T.n_range (pn_bin (fun _ _ => op_addA) o2_addA (pn_lift pd_int) (pn_call Z (c__law_draw T) (by omega) (pan_lift (pad_cons pd_int pad_nil)) (by decide +kernel) (by decide +kernel))) (by decide +kernel)
theorem Fnd.at {F H : Hp} {σ σ' : L2.St} {d : Addr} {m : NkM} (J : Fnd K F H σ d m) (h : σ'[1]? = σ[1]?) : Fnd K F H σ' d m := ⟨by rw [h]; exact J.sl, J.hp, J.out, J.low⟩
theorem loop_M (T : Tp K w mg) {C : Cx → Prop} {k : Nat} (hk : 3 ≤ k) (Z : Fam C P w K mg base NMs (defScope s__law_measure) k true) :
    ∃ ts, (∀ X, C X → PS X (stM 1) ts) ∧ ∀ (δ : Addr × Addr) (F0 B F H : Hp) (σ : L2.St) (ρ : Sl) (s : Dk) (d : Addr) (W : Sl → Dk → NkM → Prop) (D : Ends), RelSN deckR δ 0 K F0 B F H σ ρ → deckR.St δ s H → Fnd K F H σ d [] → ¬ deckR.D δ d → B d = none →
      srcM ρ s (fun ds s1 => forMs w ds ρ s1 [] W) → (∀ σ' F' H' ρ' s' m, W ρ' s' m → RelSN deckR δ 0 K F0 B F' H' σ' ρ' → deckR.St δ s' H' → Fnd K F' H' σ' d m → D.nx σ' H') → ts D σ H := by
  obtain ⟨wi, hi, si⟩ := (wSrc T hk Z).ex
  obtain ⟨gx, hg, sg⟩ := (pgd_name Z 2 (x := "k") (pos := match tgM with | .Name _ p => p | _ => ⟨0, 0, 0, 0⟩) (by decide +kernel) : PGd C K tgM (gN 2)).ex
  obtain ⟨tn, hn, s1⟩ := wM1 T hk Z
  obtain ⟨te, ti, ht, s2, s3⟩ := wM2 T hk Z
  refine ⟨tFor wi gx (tSeq (tAsg tn (gName 3)) (tAsg te (gSub (tVar 1) ti (sSetNk K w)))), fun X c => ps_for (by rw [Z.xe X c]; exact PassesOwn.never) (Z.calm X c) (hi X c) (hg X c) (pss_cons (hn X c) (pss_one (ht X c))) (by intro _; rfl), fun δ F0 B F H σ ρ s d W D R st J nd hB hr q => ?_⟩
  refine si δ F H σ ρ s _ R.n st hr _ fun It ds sA F1 H1 hw a1 Wk => ?_
  refine ⟨fun j m' σ' H' => m' = ds.length - j ∧ j ≤ ds.length ∧ ∃ F' ρ' s' m, Same F1 F' ∧ RelSN deckR δ 0 K F0 B F' H' σ' ρ' ∧ deckR.St δ s' H' ∧ Fnd K F' H' σ' d m ∧ forMs w (ds.drop j) ρ' s' m W, ⟨ds.length, by simp, Nat.zero_le _, F1, ρ, sA, [], Same.refl _, R.aft st a1, a1.st, J.aft nd a1, by simpa using hw⟩, ?_⟩
  rintro j m' σ2 H2 ⟨rfl, hj, F2, ρ2, sB, m, sF, R2, st2, J2, hd⟩
  by_cases hlt : j < ds.length
  · obtain ⟨di, hdi⟩ : ∃ di, ds[j]? = some di := ⟨ds[j], by simp [hlt]⟩
    have hdrop : ds.drop j = di :: ds.drop (j + 1) := by
      have := List.drop_eq_getElem_cons hlt
      rw [List.getElem?_eq_getElem hlt] at hdi
      cases hdi
      exact this
    rw [hdrop] at hd
    obtain ⟨fit, hml, hd⟩ := hd
    refine .inr ⟨Wk.go j H2 di (sF.trans R2.n.r.ex) hdi, fun σ' H' => ∃ F' ρ' s' m, Same F1 F' ∧ RelSN deckR δ 0 K F0 B F' H' σ' ρ' ∧ deckR.St δ s' H' ∧ Fnd K F' H' σ' d m ∧ forMs w (ds.drop (j + 1)) ρ' s' m W, fun σ' H' n => ⟨ds.length - (j + 1), by omega, rfl, hlt, n⟩, fun x H' hy => ?_⟩
    obtain ⟨t3, F3, g3, f3, rx⟩ := Wk.yld j F2 H2 di x H' sF R2.n.r.ex hdi hy
    have a3 : Aft deckR δ F2 H2 sB F3 H' := Aft.pure st2 t3 g3 f3
    refine sg F3 H' _ x di [(2, di)] f3 rx rfl _ fun mm bm => ?_
    cases bm with
    | cons rb bm =>
      cases bm with
      | nil =>
        have R3 := (R2.aft st2 a3).set (j := 2) (by decide) rb
        have J3 := (J2.aft nd a3)
        refine turn_M s1 s2 s3 (F0 := F3) (B := B) (F := F3) (d := d) (m := m) R3.rebase a3.st (J3.at ?_) nd hB fit hml (fun ρ' k dv s' => forMs w (ds.drop (j + 1)) ρ' s' (storeNk m k (k.hash w) dv) W) hd fun σ' F' H'' ρ' s' k dv hw' R' st' J' => ⟨F', ρ', s', _, (sF.trans g3.1).trans R'.gr.1, ⟨R'.n, R'.sb, R3.gr.trans (Same.refl B) R'.gr, R'.own, R'.avB⟩, st', J', hw'⟩
        show (σ2.set 2 (some _))[1]? = _
        rw [List.getElem?_set_ne (by decide)]
  · have ei : j = ds.length := by omega
    subst ei
    rw [List.drop_length] at hd
    exact .inl ⟨Wk.stop _ H2 (sF.trans R2.n.r.ex) (Nat.le_refl _), q σ2 F2 H2 ρ2 sB m hd R2 st2 J2⟩
end
end K73

set_option maxHeartbeats 2000000
namespace K73
open PySem PySem.Spec PyProof.Rows L2 Pd
section
variable {P : Program} {w : World} {K : PySem.W.Frag} {mg : Str → Option Value} {base : Heap}
def retM : Expr := match stM 2 with
  | .Return (some e) _ => e
  | _ => .Constant .none 0 ⟨0, 0, 0, 0⟩
noncomputable def eRetM (w : World) : E1 := rA fTuple (aCons (rLc (aList (rNkSort w 1)) (gN 4) tTrue (rA mkTup (aCons (rVar 4) (aCons (rNkGet w 1 (rVar 4)) aNil))) [4]) aNil)
theorem wRet (T : Tp K w mg) {C : Cx → Prop} {k : Nat} (hk : 3 ≤ k) (Z : Fam C P w K mg base NMs (defScope s__law_measure) k true) : PEd C K retM (eRetM w) :=
  pd_ct Z (zTuple Z) oc_tuple T.n_tuple (by decide +kernel) (pad_cons (pd_lc Z [("name", 4)] (tgAt_n 4) (pid_list Z (pd_nkSort Z 1 (by decide +kernel) T.n_sorted (by decide +kernel))) (pgd_name (Z.blk _) 4 (by decide +kernel)) ptsd_nil
    (pd_tup (pad_cons (pd_var (Z.blk _) 4 (by decide +kernel)) (pad_cons (pd_nkGet (Z.blk _) 1 (by decide +kernel) (pd_var (Z.blk _) 4 (by decide +kernel))) pad_nil))) (by decide +kernel) (by decide +kernel)) pad_nil) (by decide +kernel)
end
end K73

set_option maxHeartbeats 2000000
namespace K73
open PySem PySem.Spec PyProof.Rows L2 Pd
section
variable {P : Program} {w : World} {K : PySem.W.Frag} {mg : Str → Option Value} {base : Heap}
theorem noC {j : Nat} {c : Cell} (ej : ([none, none, none, none, none] : Sl)[j]? = some (some c)) : False := by
  rcases j with _ | _ | _ | _ | _ | j
  · cases ej
  · cases ej
  · cases ej
  · cases ej
  · cases ej
  · simp at ej
/-- the whole body of _law_measure -/
def bMs (w : World) : BN Dk := fun ρ s W => ρ = [none, none, none, none, none] ∧ srcM ρ s fun xs s1 => forMs w xs ρ s1 [] fun ρ' s' m => ∃ d, eRetM w (ρ'.set 1 (some (.nk m))) = some d ∧ W (.rt d) s'
noncomputable def m__law_measure (w : World) : MN Dk := runN 5 (bMs w)
theorem wMs (T : Tp K w mg) {C : Cx → Prop} {k : Nat} (hk : 3 ≤ k) (Z : Fam C P w K mg base NMs (defScope s__law_measure) k true) : PSsn C K deckR 0 (defBody s__law_measure) (bMs w) := by
  obtain ⟨ts, h1, s1⟩ := loop_M T hk Z
  obtain ⟨te, h2, s2⟩ := (wRet T hk Z).ex
  refine ⟨tSeq (tAsg tNewNk (gName 1)) (tSeq ts (tRet te)), fun X c => ?_, fun δ F0 B F H σ ρ s W D R st hr q => ?_⟩
  · exact pss_cons (let z := okS_ok Z (i := 1) (x := "found") (by decide +kernel) c; ps_set (Z.ndX c) z.1 z.2.1 pe_newNk (by rfl) z.2.2) (pss_cons (h1 X c) (pss_one (ps_ret (h2 X c))))
  · obtain ⟨rfl, hr⟩ := hr
    refine fun p hp hsys => ?_
    have hB : B p = none := R.sb.free hp
    have nd : ¬ deckR.D δ p := fun d => deckR.occ δ s H p st d hp
    have hF : F p = none := R.n.r.ex.free hp
    have sH : Same H (upd H p (rawD p #[] 0)) := same_upd hp
    have a1 : Aft deckR δ F H s F (upd H p (rawD p #[] 0)) := Aft.pure st sH (Gr.refl F H) (R.n.r.ex.trans sH)
    have R0 := R.aft st a1
    have R1 : RelSN deckR δ 0 K F0 B F (upd H p (rawD p #[] 0)) (σ.set 1 (some (.ref p))) [none, none, none, none, none] := by
      refine ⟨⟨⟨by rw [List.length_set]; exact R0.n.r.len, R0.n.r.ex, fun j c e => ?_, fun j kk d1 d2 a ne e1 e2 => ?_⟩, R0.n.av, fun j d1 a e1 => ?_, by rw [List.getElem?_set_ne (by decide)]; exact R0.n.lk, rfl⟩, R0.sb, R0.gr, fun j d1 a e1 => ?_, R0.avB⟩
      all_goals
        first
          | exact (noC e).elim
          | exact (noC e1).elim
    have hl : 1 < σ.length := by rw [R.n.r.len]; decide
    have J : Fnd K F (upd H p (rawD p #[] 0)) (σ.set 1 (some (.ref p))) p [] := ⟨by rw [List.getElem?_set_self hl], ⟨#[], 0, upd_same, trivial⟩, hF, hsys⟩
    refine s1 δ F0 B F _ _ _ s p _ _ R1 a1.st J nd hB hr fun σ' F' H' ρ' s' m hw R' st' J' => ?_
    obtain ⟨d, ed, hw⟩ := hw
    obtain ⟨es, ep, j1, j2⟩ := J'.hp
    have sF : Same F' (upd F' p (rawD p es ep)) := same_upd J'.out
    have sFH : Same (upd F' p (rawD p es ep)) H' := fun a o ha => by
      by_cases z : a = p
      · subst z
        rw [upd_same] at ha
        cases ha
        exact j1
      · rw [upd_ne z] at ha
        exact R'.n.r.ex a o ha
    have hl' : 1 < ρ'.length := by
      rw [← R'.n.r.len]
      exact (List.getElem?_eq_some_iff.mp J'.sl).1
    have Rn : Rel K (upd F' p (rawD p es ep)) H' σ' (ρ'.set 1 (some (.nk m))) := by
      refine ⟨by rw [List.length_set]; exact R'.n.r.len, sFH, fun j c e => ?_, fun j kk d1 d2 a ne e1 e2 e3 e4 => ?_⟩
      · rcases set_none_of e with ⟨z, zc⟩ | ⟨ne, z⟩
        · subst z
          cases zc
          exact ⟨.ref p, J'.sl, p, es, ep, rfl, upd_same, J'.low, NkAll.mono sF j2⟩
        · obtain ⟨v, hv, hc⟩ := R'.n.r.cell j c z
          refine ⟨v, hv, ?_⟩
          cases c with
          | vl dd => exact Rp.mono sF _ _ hc
          | dk mm =>
            obtain ⟨b, ks, rfl, g1, g2⟩ := hc
            exact ⟨b, ks, rfl, sF _ _ g1, DkAll.mono sF g2⟩
          | fz mm =>
            obtain ⟨b, o, ks, rfl, g1, g2⟩ := hc
            exact ⟨b, o, ks, rfl, sF _ _ g1, DkAll.mono sF g2⟩
          | nk mm =>
            obtain ⟨b, es', ep', rfl, g1, g2, g3⟩ := hc
            exact ⟨b, es', ep', rfl, sF _ _ g1, g2, NkAll.mono sF g3⟩
          | ow ds =>
            obtain ⟨a, vs, e1, e2, e3, e4⟩ := hc
            have : a ≠ p := fun z => by subst z; rw [j1] at e2; cases e2
            exact ⟨a, vs, e1, e2, by rw [upd_ne this]; exact e3, RpAll.mono sF _ _ e4⟩
      · rcases set_none_of e1 with ⟨_, zc⟩ | ⟨_, z1⟩
        · cases zc
        · rcases set_none_of e2 with ⟨_, zc⟩ | ⟨_, z2⟩
          · cases zc
          · exact R'.n.r.inj j kk d1 d2 a ne z1 z2 e3 e4
    refine s2 _ H' σ' _ d Rn ed _ fun v Fx Hx sx gx ex rx => ?_
    have stx : deckR.St δ s' Hx := St.same (G := deckR) sx st'
    have clean : ∀ a o, Fx a = some o → F' a = some o ∨ a = p ∨ H' a = none := fun a o ha => by
      rcases gx.2 a o ha with z | z
      · by_cases zp : a = p
        · exact .inr (.inl zp)
        · rw [upd_ne zp] at z
          exact .inl z
      · exact .inr (.inr z)
    refine q (.rt d) s' hw v Fx Hx (R'.sb.trans sx) ⟨R'.gr.1.trans (sF.trans gx.1), fun a o ha => ?_⟩ ex (fun a da => ?_) stx rx
    · rcases clean a o ha with z | z | z
      · exact R'.gr.2 a o z
      · rw [z]; exact .inr hB
      · exact .inr (R'.sb.free z)
    · cases z : Fx a with
      | none => rfl
      | some o =>
        rcases clean a o z with z1 | z1 | z1
        · rw [R'.n.av a da] at z1; cases z1
        · subst z1; exact absurd da nd
        · exact absurd z1 (deckR.occ δ s' H' a st' da)
theorem c__law_measure (T : Tp K w mg) : CalN P w K mg base deckR 4 "_law_measure" 0 (m__law_measure w) :=
  calN_of (G := deckR) (k := 3) (ps := ["deck"]) (nN := 5) (b := bMs w) T.f__law_measure scMs rfl rfl (fun _ _ _ _ _ _ us hl => match us, hl with | [_], _ => rfl) fun f Z => wMs T (by decide) Z
end
end K73

set_option maxHeartbeats 2000000
namespace K73
open PySem PySem.Spec PyProof.Rows L2 Pd
section
variable {P : Program} {w : World} {K : PySem.W.Frag} {mg : Str → Option Value} {base : Heap}
abbrev N_law : List Str := ["script", "deck", "turn", "program", "kept", "go", "sight", "text", "told", "measure"]
theorem sc_law : FnScope N_law ["script"] (defScope s_law) := ⟨rfl, rfl, rfl, by decide +kernel, rfl, by decide +kernel, by decide +kernel⟩
def restL : List Stmt := (defBody s_law).tail
noncomputable def b_law (w : World) (pf : Str → Option PyData) : BN Dk := nSeq (nFor (nRange (nL (rC (.int 3)))) (gN 2) (nSeq (nAsg (gN 3) (nCall 0 (m__law_program) (nAL (aNil)))) (nSeq (nAsg (gN 4) (nL (rE1 fRepr (rVar 3)))) (nSeq (nFor (nRange (nL (rC (.int 4)))) (gN 5) (nSeq (nIfS (nNot (nVal (nCal 2 (m__law_is_requirement_right pf) (nCons (nL (rVar 3)) (nCons (nCall 1 (m__law_requirement) (nAL (aCons (rVar 3) (aNil)))) (nNil)))))) (nRet (nL (rC (.bool false)))) (nNext)) (nSeq (nAsg (gN 6) (nCall 1 (m__law_sight) (nAL (aCons (rVar 3) (aNil))))) (nSeq (nAsg (gN 7) (nL (rCall 1 m__law_sight_text (aCons (rVar 6) (aNil))))) (nSeq (nAsg (gN 8) (nL (rA mkLst (aCons (rCall 1 m_show_sight (aCons (rVar 6) (aNil))) (aCons (rCallK (["sight"] : List Str).length false m_show_sight (aCons (rVar 6) (aNil))) (aCons (rCall 2 m_is_sight (aCons (rVar 3) (aCons (rVar 6) (aNil)))) (aNil))))))) (nSeq (nIfS (nTL (tNotD (tVal (rCall 2 (m__law_same 14) (aCons (rVar 8) (aCons (rA mkLst (aCons (rVar 7) (aCons (rVar 7) (aCons (rC (.bool true)) (aNil))))) (aNil))))))) (nRet (nL (rC (.bool false)))) (nNext)) (nSeq (nAsg (gN 8) (nL (rA mkLst (aCons (rCall 2 m_read_sight (aCons (rVar 3) (aCons (rVar 7) (aNil)))) (aCons (rCallK (["program", "thing"] : List Str).length true m_read_sight (aCons (rVar 7) (aCons (rVar 3) (aNil)))) (aNil)))))) (nSeq (nIfS (nTL (tNotD (tVal (rCall 2 (m__law_same 14) (aCons (rVar 8) (aCons (rA mkLst (aCons (rVar 6) (aCons (rVar 6) (aNil)))) (aNil))))))) (nRet (nL (rC (.bool false)))) (nNext)) (nSeq (nAsg (gN 9) (nCall 0 (m__law_measure w) (nAL (aNil)))) (nSeq (nAsg (gN 7) (nL (rCall 1 m__law_measure_text (aCons (rVar 9) (aNil))))) (nSeq (nAsg (gN 8) (nL (rA mkLst (aCons (rCall 1 m_show_measure (aCons (rVar 9) (aNil))) (aCons (rCallK (["measure"] : List Str).length false m_show_measure (aCons (rVar 9) (aNil))) (aCons (rCall 1 m_is_measure (aCons (rVar 9) (aNil))) (aCons (rCallK (["thing"] : List Str).length false m_is_measure (aCons (rVar 9) (aNil))) (aNil)))))))) (nSeq (nIfS (nTL (tNotD (tVal (rCall 2 (m__law_same 14) (aCons (rVar 8) (aCons (rA mkLst (aCons (rVar 7) (aCons (rVar 7) (aCons (rC (.bool true)) (aCons (rC (.bool true)) (aNil)))))) (aNil))))))) (nRet (nL (rC (.bool false)))) (nNext)) (nSeq (nIfS (nTL (tNotD (tVal (rCall 2 (m__law_same 14) (aCons (rA mkLst (aCons (rCall 1 m_read_measure (aCons (rVar 7) (aNil))) (aCons (rCallK (["thing"] : List Str).length false m_read_measure (aCons (rVar 7) (aNil))) (aNil)))) (aCons (rA mkLst (aCons (rVar 9) (aCons (rVar 9) (aNil)))) (aNil))))))) (nRet (nL (rC (.bool false)))) (nNext)) (nIfS (nNot (nVal (nCal 2 m__law_is_box_right (nCons (nL (rVar 3)) (nCons (nCall 1 (m__law_box) (nAL (aCons (rVar 3) (aNil)))) (nNil)))))) (nRet (nL (rC (.bool false)))) (nNext))))))))))))))) (nIfS (nOr (nNot (nVal (nCal 2 (m__law_is_requirement_right pf) (nAL (aCons (rVar 3) (aCons (rA mkTup (aCons (rC (.str "all")) (aCons (rA mkTup (aNil)) (aNil)))) (aNil))))))) (nTL (tVal (rE2 fNe (rE1 fRepr (rVar 3)) (rVar 4))))) (nRet (nL (rC (.bool false)))) (nNext)))))) (nRet (nL (rC (.bool true))))
theorem w_law (T : Tp K w mg) (pf : Str → Option PyData) (hp : ∀ t d, pf t = some d → t.length ≤ 16777216 ∧ Parses t d) {C : Cx → Prop} {k : Nat} (hk : 63 ≤ k) (Z : Fam C P w K mg base N_law (defScope s_law) k true) (hgd : ∀ X, C X → X.A.guards = some []) : PSsn C K deckR 1 restL (b_law w pf) :=
  psn_cons (psn_for Z (offI_of (tgAt_n 2) (by decide)) (pin_range Z T.n_range (pn_lift (pd_int)) (by decide +kernel)) (pgd_name Z 2 (by decide +kernel)) (psn_cons (psn_set Z 3 (by decide) (pn_call Z (c__law_program T) (by omega) (pan_lift (pad_nil)) (by decide +kernel) (by decide +kernel)) (by decide +kernel)) (psn_cons (psn_set Z 4 (by decide) (pn_lift (pd_repr Z hgd (pd_var Z 3 (by decide +kernel)) T.n_repr (by decide +kernel))) (by decide +kernel)) (psn_cons (psn_for Z (offI_of (tgAt_n 5) (by decide)) (pin_range Z T.n_range (pn_lift (pd_int)) (by decide +kernel)) (pgd_name Z 5 (by decide +kernel)) (psn_cons (psn_if (ptn_not (ptn_val (pn_calG Z hgd (c__law_is_requirement_right T pf hp) (by omega) (pan_cons (pn_lift (pd_var Z 3 (by decide +kernel))) (pan_cons (pn_call Z (c__law_requirement T) (by omega) (pan_lift (pad_cons (pd_var Z 3 (by decide +kernel)) (pad_nil))) (by decide +kernel) (by decide +kernel)) (pan_nil))) (by decide +kernel)))) (psn_one (psn_ret (pn_lift (pd_bl)))) (psn_nil)) (psn_cons (psn_set Z 6 (by decide) (pn_call Z (c__law_sight T) (by omega) (pan_lift (pad_cons (pd_var Z 3 (by decide +kernel)) (pad_nil))) (by decide +kernel) (by decide +kernel)) (by decide +kernel)) (psn_cons (psn_set Z 7 (by decide) (pn_lift (pd_call Z (c__law_sight_text T) (by omega) (pad_cons (pd_var Z 6 (by decide +kernel)) (pad_nil)) (by decide +kernel))) (by decide +kernel)) (psn_cons (psn_set Z 8 (by decide) (pn_lift (pd_lst (pad_cons (pd_call Z (c_show_sight T) (by omega) (pad_cons (pd_var Z 6 (by decide +kernel)) (pad_nil)) (by decide +kernel)) (pad_cons (pd_callK (ks := ["sight"]) false Z (ck_show_sight T) T.f_show_sight (by omega) (pkd_cons (pd_var Z 6 (by decide +kernel)) (pkd_nil)) (by decide +kernel) (fun _ _ _ _ _ _ ws hl => match ws, hl with | [_], _ => rfl)) (pad_cons (pd_call Z (c_is_sight T) (by omega) (pad_cons (pd_var Z 3 (by decide +kernel)) (pad_cons (pd_var Z 6 (by decide +kernel)) (pad_nil))) (by decide +kernel)) (pad_nil)))))) (by decide +kernel)) (psn_cons (psn_if (ptn_lift (ptd_not (ptd_val (pd_call Z (c__law_same T 14) (by omega) (pad_cons (pd_var Z 8 (by decide +kernel)) (pad_cons (pd_lst (pad_cons (pd_var Z 7 (by decide +kernel)) (pad_cons (pd_var Z 7 (by decide +kernel)) (pad_cons (pd_bl) (pad_nil))))) (pad_nil))) (by decide +kernel))))) (psn_one (psn_ret (pn_lift (pd_bl)))) (psn_nil)) (psn_cons (psn_set Z 8 (by decide) (pn_lift (pd_lst (pad_cons (pd_call Z (c_read_sight T) (by omega) (pad_cons (pd_var Z 3 (by decide +kernel)) (pad_cons (pd_var Z 7 (by decide +kernel)) (pad_nil))) (by decide +kernel)) (pad_cons (pd_callK (ks := ["thing", "program"]) true Z (ck_read_sight T) T.f_read_sight (by omega) (pkd_cons (pd_var Z 7 (by decide +kernel)) (pkd_cons (pd_var Z 3 (by decide +kernel)) (pkd_nil))) (by decide +kernel) (fun _ _ _ _ _ _ ws hl => match ws, hl with | [_, _], _ => rfl)) (pad_nil))))) (by decide +kernel)) (psn_cons (psn_if (ptn_lift (ptd_not (ptd_val (pd_call Z (c__law_same T 14) (by omega) (pad_cons (pd_var Z 8 (by decide +kernel)) (pad_cons (pd_lst (pad_cons (pd_var Z 6 (by decide +kernel)) (pad_cons (pd_var Z 6 (by decide +kernel)) (pad_nil)))) (pad_nil))) (by decide +kernel))))) (psn_one (psn_ret (pn_lift (pd_bl)))) (psn_nil)) (psn_cons (psn_set Z 9 (by decide) (pn_call Z (c__law_measure T) (by omega) (pan_lift (pad_nil)) (by decide +kernel) (by decide +kernel)) (by decide +kernel)) (psn_cons (psn_set Z 7 (by decide) (pn_lift (pd_call Z (c__law_measure_text T) (by omega) (pad_cons (pd_var Z 9 (by decide +kernel)) (pad_nil)) (by decide +kernel))) (by decide +kernel)) (psn_cons (psn_set Z 8 (by decide) (pn_lift (pd_lst (pad_cons (pd_call Z (c_show_measure T) (by omega) (pad_cons (pd_var Z 9 (by decide +kernel)) (pad_nil)) (by decide +kernel)) (pad_cons (pd_callK (ks := ["measure"]) false Z (ck_show_measure T) T.f_show_measure (by omega) (pkd_cons (pd_var Z 9 (by decide +kernel)) (pkd_nil)) (by decide +kernel) (fun _ _ _ _ _ _ ws hl => match ws, hl with | [_], _ => rfl)) (pad_cons (pd_call Z (c_is_measure T) (by omega) (pad_cons (pd_var Z 9 (by decide +kernel)) (pad_nil)) (by decide +kernel)) (pad_cons (pd_callK (ks := ["thing"]) false Z (ck_is_measure T) T.f_is_measure (by omega) (pkd_cons (pd_var Z 9 (by decide +kernel)) (pkd_nil)) (by decide +kernel) (fun _ _ _ _ _ _ ws hl => match ws, hl with | [_], _ => rfl)) (pad_nil))))))) (by decide +kernel)) (psn_cons (psn_if (ptn_lift (ptd_not (ptd_val (pd_call Z (c__law_same T 14) (by omega) (pad_cons (pd_var Z 8 (by decide +kernel)) (pad_cons (pd_lst (pad_cons (pd_var Z 7 (by decide +kernel)) (pad_cons (pd_var Z 7 (by decide +kernel)) (pad_cons (pd_bl) (pad_cons (pd_bl) (pad_nil)))))) (pad_nil))) (by decide +kernel))))) (psn_one (psn_ret (pn_lift (pd_bl)))) (psn_nil)) (psn_cons (psn_if (ptn_lift (ptd_not (ptd_val (pd_call Z (c__law_same T 14) (by omega) (pad_cons (pd_lst (pad_cons (pd_call Z (c_read_measure T) (by omega) (pad_cons (pd_var Z 7 (by decide +kernel)) (pad_nil)) (by decide +kernel)) (pad_cons (pd_callK (ks := ["thing"]) false Z (ck_read_measure T) T.f_read_measure (by omega) (pkd_cons (pd_var Z 7 (by decide +kernel)) (pkd_nil)) (by decide +kernel) (fun _ _ _ _ _ _ ws hl => match ws, hl with | [_], _ => rfl)) (pad_nil)))) (pad_cons (pd_lst (pad_cons (pd_var Z 9 (by decide +kernel)) (pad_cons (pd_var Z 9 (by decide +kernel)) (pad_nil)))) (pad_nil))) (by decide +kernel))))) (psn_one (psn_ret (pn_lift (pd_bl)))) (psn_nil)) (psn_one (psn_if (ptn_not (ptn_val (pn_cal Z (c__law_is_box_right T) (by omega) (pan_cons (pn_lift (pd_var Z 3 (by decide +kernel))) (pan_cons (pn_call Z (c__law_box T) (by omega) (pan_lift (pad_cons (pd_var Z 3 (by decide +kernel)) (pad_nil))) (by decide +kernel) (by decide +kernel)) (pan_nil))) (by decide +kernel)))) (psn_one (psn_ret (pn_lift (pd_bl)))) (psn_nil)))))))))))))))) (psn_one (psn_if (PWn.pt (pwn_or (ptn_not (ptn_val (pn_calG Z hgd (c__law_is_requirement_right T pf hp) (by omega) (pan_lift (pad_cons (pd_var Z 3 (by decide +kernel)) (pad_cons (pd_tup (pad_cons (pd_str) (pad_cons (pd_tup (pad_nil)) (pad_nil)))) (pad_nil)))) (by decide +kernel)))) (pwn_or1 (ptn_lift (ptd_cmp (zNe Z) o2_ne (pd_repr Z hgd (pd_var Z 3 (by decide +kernel)) T.n_repr (by decide +kernel)) (pd_var Z 4 (by decide +kernel)) (by rfl)))))) (psn_one (psn_ret (pn_lift (pd_bl)))) (psn_nil))))))) (psn_one (psn_ret (pn_lift (pd_bl))))
end
end K73

set_option maxHeartbeats 2000000
namespace K73
open PySem PySem.Spec PyProof.Rows L2 Pd
section
variable {P : Program} {w : World} {K : PySem.W.Frag} {mg : Str → Option Value}
/-- what law promises -/
def spLaw (K : PySem.W.Frag) : Sp := fun vs H Q _ => ∃ (a : Addr) (ns : List Int), vs = [.ref a] ∧ SqL K H a (ns.map V.int) ∧ ns.length ≤ 63 ∧ ∀ H', Q (.bl true) H'
def sl0 : Sl := [none, none, none, none, none, none, none, none, none, none]
/-- THE PLAIN HALF -/
def Plain (w : World) (pf : Str → Option PyData) : Prop := ∀ s : Dk, s.drawn = 0 → s.cells.length ≤ 63 → b_law w pf sl0 s fun fl _ => fl = .rt (.bool true)
theorem sl0_no {j : Nat} {c : Cell} (e : sl0[j]? = some (some c)) : False := by
  have : ∀ x ∈ sl0, x = none := by decide +kernel
  have h := this _ (List.mem_of_getElem? e)
  cases h
theorem g_law (T : Tp K w mg) (pf : Str → Option PyData) (hp : ∀ t d, pf t = some d → t.length ≤ 16777216 ∧ Parses t d) (hpl : Plain w pf) :
    ∃ f fd, mg "law" = some (.ref f) ∧ (∀ base : Heap, FnG P w K mg base 70 f fd ["script"] (spLaw K)) ∧ ∀ (s : Shared) (u : Value), BindsTo s fd ⟨[u], []⟩ [("script", u)] := by
  obtain ⟨f, fd, hm, F⟩ := T.f_law
  have hb := FunD.bindsA (ps := ["script"]) F fun _ _ _ _ _ _ us hl => match us, hl with | [_], _ => rfl
  refine ⟨f, fd, hm, fun base => ?_, fun s u => hb s [u] rfl⟩
  obtain ⟨fk, fdk, hmk, kpk, Gk, bk⟩ := c_deck (P := P) (base := base) T
  obtain ⟨tx, hx, sx⟩ := (w_law (P := P) (base := base) T pf hp (C := BodG P w K mg base N_law "law" (defScope s_law) f 69) (k := 69) (by decide) (fam_bodG sc_law.nd) BodG.guards).ex
  refine fnG_of F sc_law (fun vs H Q E h => ?_) fun cdv A outer s H vs Q E hr hg q => ⟨tSeq (tAsg (tCall (spDeck K) [] E0 (tCons (tVar 0) tNil)) (gName 1)) tx, PSs.nox ?_, ?_⟩
  · obtain ⟨a, ns, rfl, _⟩ := h
    rfl
  · exact pss_cons (ps_set (i := 1) sc_law.nd rfl (Or.inl rfl) (pe_call Gk (hr.mono (by decide)) rfl hmk kpk bk .nil pass0 (pa_cons (pv 0) pa_nil))) (hx _ ⟨cdv, A, outer, s, H, E, hr, hg, rfl⟩)
  · obtain ⟨a, ns, rfl, hS, hl, q⟩ := q
    refine ⟨.ref a, rfl, a, ns, rfl, hS, hl, fun H' p c s' sHH hp0 hc0 st hd => ?_⟩
    let F0 : Hp := fun _ => none
    have RN : RelSN deckR (p, c) 1 K F0 (butD (deckR.D (p, c)) H') F0 H' ((L2.start N_law [V.ref a]).set 1 (some (.ref p))) sl0 :=
      ⟨⟨⟨rfl, fun x o e => (by cases e), fun j c e => (sl0_no e).elim, fun j kk d1 d2 a ne e1 e2 => (sl0_no e1).elim⟩, fun _ _ => rfl, fun j d1 a e1 => (sl0_no e1).elim, rfl, rfl⟩, fun x o e1 => (butD_some e1).2, Gr.refl _ _, fun j d1 a e1 => (sl0_no e1).elim, fun a d => butD_in d⟩
    refine sx (p, c) F0 _ F0 H' _ _ s' _ _ RN st (hpl s' hd st.2.2.2) fun fl s'' hw => ?_
    subst hw
    intro v F1 H1 _ _ _ _ _ rv
    rw [rp_bl rv]
    exact q H1
end
end K73

set_option maxHeartbeats 2000000
namespace K73
open PySem PySem.Spec PyProof.Rows L2 Pd
section
variable {K : PySem.W.Frag} {w : World} {h : Heap} {mg : Str → Option Value}

theorem h_f_is_integer (X : K.In h) (G : h.Ns mainGlobals mg) (c : He.SaysX fa fn ts [] ex w h K) : DF K mg "is_integer" s_is_integer [] := by
  obtain ⟨fd, F⟩ := c.t.d.def_ 1 (d := d_is_integer) rfl
  exact ⟨_, fd, He.glo_ok X G (c.t.d.fact 1 (f := .glo "is_integer") rfl), F⟩
theorem h_f_common_divisor (X : K.In h) (G : h.Ns mainGlobals mg) (c : He.SaysX fa fn ts [] ex w h K) : DF K mg "common_divisor" s_common_divisor [] := by
  obtain ⟨fd, F⟩ := c.t.d.def_ 2 (d := d_common_divisor) rfl
  exact ⟨_, fd, He.glo_ok X G (c.t.d.fact 2 (f := .glo "common_divisor") rfl), F⟩
theorem h_f_is_number (X : K.In h) (G : h.Ns mainGlobals mg) (c : He.SaysX fa fn ts [] ex w h K) : DF K mg "is_number" s_is_number [] := by
  obtain ⟨fd, F⟩ := c.t.d.def_ 3 (d := d_is_number) rfl
  exact ⟨_, fd, He.glo_ok X G (c.t.d.fact 3 (f := .glo "is_number") rfl), F⟩
theorem h_f_top_of (X : K.In h) (G : h.Ns mainGlobals mg) (c : He.SaysX fa fn ts [] ex w h K) : DF K mg "top_of" s_top_of [] := by
  obtain ⟨fd, F⟩ := c.t.d.def_ 4 (d := d_top_of) rfl
  exact ⟨_, fd, He.glo_ok X G (c.t.d.fact 4 (f := .glo "top_of") rfl), F⟩
theorem h_f_bottom_of (X : K.In h) (G : h.Ns mainGlobals mg) (c : He.SaysX fa fn ts [] ex w h K) : DF K mg "bottom_of" s_bottom_of [] := by
  obtain ⟨fd, F⟩ := c.t.d.def_ 5 (d := d_bottom_of) rfl
  exact ⟨_, fd, He.glo_ok X G (c.t.d.fact 5 (f := .glo "bottom_of") rfl), F⟩
theorem h_f_is_less (X : K.In h) (G : h.Ns mainGlobals mg) (c : He.SaysX fa fn ts [] ex w h K) : DF K mg "is_less" s_is_less [] := by
  obtain ⟨fd, F⟩ := c.t.d.def_ 6 (d := d_is_less) rfl
  exact ⟨_, fd, He.glo_ok X G (c.t.d.fact 6 (f := .glo "is_less") rfl), F⟩
theorem h_f_show_number (X : K.In h) (G : h.Ns mainGlobals mg) (c : He.SaysX fa fn ts [] ex w h K) : DF K mg "show_number" s_show_number [] := by
  obtain ⟨fd, F⟩ := c.t.d.def_ 7 (d := d_show_number) rfl
  exact ⟨_, fd, He.glo_ok X G (c.t.d.fact 7 (f := .glo "show_number") rfl), F⟩
theorem h_f_is_box (X : K.In h) (G : h.Ns mainGlobals mg) (c : He.SaysX fa fn ts [] ex w h K) : DF K mg "is_box" s_is_box [] := by
  obtain ⟨fd, F⟩ := c.t.d.def_ 8 (d := d_is_box) rfl
  exact ⟨_, fd, He.glo_ok X G (c.t.d.fact 12 (f := .glo "is_box") rfl), F⟩
theorem h_f_is_integer_from (X : K.In h) (G : h.Ns mainGlobals mg) (c : He.SaysX fa fn ts [] ex w h K) : DF K mg "is_integer_from" s_is_integer_from [] := by
  obtain ⟨fd, F⟩ := c.t.d.def_ 9 (d := d_is_integer_from) rfl
  exact ⟨_, fd, He.glo_ok X G (c.t.d.fact 15 (f := .glo "is_integer_from") rfl), F⟩
theorem h_f_is_event_name (X : K.In h) (G : h.Ns mainGlobals mg) (c : He.SaysX fa fn ts [] ex w h K) : DF K mg "is_event_name" s_is_event_name [] := by
  obtain ⟨fd, F⟩ := c.t.d.def_ 10 (d := d_is_event_name) rfl
  exact ⟨_, fd, He.glo_ok X G (c.t.d.fact 16 (f := .glo "is_event_name") rfl), F⟩
theorem h_f_show_name (X : K.In h) (G : h.Ns mainGlobals mg) (c : He.SaysX fa fn ts [] ex w h K) : DF K mg "show_name" s_show_name [] := by
  obtain ⟨fd, F⟩ := c.t.d.def_ 11 (d := d_show_name) rfl
  exact ⟨_, fd, He.glo_ok X G (c.t.d.fact 17 (f := .glo "show_name") rfl), F⟩
theorem h_f_is_digits (X : K.In h) (G : h.Ns mainGlobals mg) (c : He.SaysX fa fn ts [] ex w h K) : DF K mg "is_digits" s_is_digits [] := by
  obtain ⟨fd, F⟩ := c.t.d.def_ 12 (d := d_is_digits) rfl
  exact ⟨_, fd, He.glo_ok X G (c.t.d.fact 18 (f := .glo "is_digits") rfl), F⟩
theorem h_f_read_name (X : K.In h) (G : h.Ns mainGlobals mg) (c : He.SaysX fa fn ts [] ex w h K) : DF K mg "read_name" s_read_name [] := by
  obtain ⟨fd, F⟩ := c.t.d.def_ 13 (d := d_read_name) rfl
  exact ⟨_, fd, He.glo_ok X G (c.t.d.fact 19 (f := .glo "read_name") rfl), F⟩
theorem h_f_are_pairs (X : K.In h) (G : h.Ns mainGlobals mg) (c : He.SaysX fa fn ts [] ex w h K) : DF K mg "are_pairs" s_are_pairs [] := by
  obtain ⟨fd, F⟩ := c.t.d.def_ 14 (d := d_are_pairs) rfl
  exact ⟨_, fd, He.glo_ok X G (c.t.d.fact 20 (f := .glo "are_pairs") rfl), F⟩
theorem h_f_is_between (X : K.In h) (G : h.Ns mainGlobals mg) (c : He.SaysX fa fn ts [] ex w h K) : DF K mg "is_between" s_is_between [] := by
  obtain ⟨fd, F⟩ := c.t.d.def_ 15 (d := d_is_between) rfl
  exact ⟨_, fd, He.glo_ok X G (c.t.d.fact 25 (f := .glo "is_between") rfl), F⟩
theorem h_f_is_in_range (X : K.In h) (G : h.Ns mainGlobals mg) (c : He.SaysX fa fn ts [] ex w h K) : DF K mg "is_in_range" s_is_in_range [] := by
  obtain ⟨fd, F⟩ := c.t.d.def_ 16 (d := d_is_in_range) rfl
  exact ⟨_, fd, He.glo_ok X G (c.t.d.fact 26 (f := .glo "is_in_range") rfl), F⟩
theorem h_f_is_name (X : K.In h) (G : h.Ns mainGlobals mg) (c : He.SaysX fa fn ts [] ex w h K) : DF K mg "is_name" s_is_name [] := by
  obtain ⟨fd, F⟩ := c.t.d.def_ 17 (d := d_is_name) rfl
  exact ⟨_, fd, He.glo_ok X G (c.t.d.fact 27 (f := .glo "is_name") rfl), F⟩
theorem h_f_is_one_of (X : K.In h) (G : h.Ns mainGlobals mg) (c : He.SaysX fa fn ts [] ex w h K) : DF K mg "is_one_of" s_is_one_of [] := by
  obtain ⟨fd, F⟩ := c.t.d.def_ 18 (d := d_is_one_of) rfl
  exact ⟨_, fd, He.glo_ok X G (c.t.d.fact 28 (f := .glo "is_one_of") rfl), F⟩
theorem h_f_is_expression (X : K.In h) (G : h.Ns mainGlobals mg) (c : He.SaysX fa fn ts [] ex w h K) : DF K mg "is_expression" s_is_expression [.int 4] := by
  obtain ⟨fd, F⟩ := c.t.d.def_ 19 (d := d_is_expression) rfl
  exact ⟨_, fd, He.glo_ok X G (c.t.d.fact 29 (f := .glo "is_expression") rfl), F⟩
theorem h_f_is_measure (X : K.In h) (G : h.Ns mainGlobals mg) (c : He.SaysX fa fn ts [] ex w h K) : DF K mg "is_measure" s_is_measure [] := by
  obtain ⟨fd, F⟩ := c.t.d.def_ 20 (d := d_is_measure) rfl
  exact ⟨_, fd, He.glo_ok X G (c.t.d.fact 31 (f := .glo "is_measure") rfl), F⟩
theorem h_f_show_expression (X : K.In h) (G : h.Ns mainGlobals mg) (c : He.SaysX fa fn ts [] ex w h K) : DF K mg "show_expression" s_show_expression [] := by
  obtain ⟨fd, F⟩ := c.t.d.def_ 21 (d := d_show_expression) rfl
  exact ⟨_, fd, He.glo_ok X G (c.t.d.fact 36 (f := .glo "show_expression") rfl), F⟩
theorem h_f_is_index (X : K.In h) (G : h.Ns mainGlobals mg) (c : He.SaysX fa fn ts [] ex w h K) : DF K mg "is_index" s_is_index [] := by
  obtain ⟨fd, F⟩ := c.t.d.def_ 34 (d := d_is_index) rfl
  exact ⟨_, fd, He.glo_ok X G (c.t.d.fact 56 (f := .glo "is_index") rfl), F⟩
theorem h_f_is_ends (X : K.In h) (G : h.Ns mainGlobals mg) (c : He.SaysX fa fn ts [] ex w h K) : DF K mg "is_ends" s_is_ends [] := by
  obtain ⟨fd, F⟩ := c.t.d.def_ 35 (d := d_is_ends) rfl
  exact ⟨_, fd, He.glo_ok X G (c.t.d.fact 57 (f := .glo "is_ends") rfl), F⟩
theorem h_f_is_emits (X : K.In h) (G : h.Ns mainGlobals mg) (c : He.SaysX fa fn ts [] ex w h K) : DF K mg "is_emits" s_is_emits [] := by
  obtain ⟨fd, F⟩ := c.t.d.def_ 36 (d := d_is_emits) rfl
  exact ⟨_, fd, He.glo_ok X G (c.t.d.fact 58 (f := .glo "is_emits") rfl), F⟩
theorem h_f_is_within (X : K.In h) (G : h.Ns mainGlobals mg) (c : He.SaysX fa fn ts [] ex w h K) : DF K mg "is_within" s_is_within [] := by
  obtain ⟨fd, F⟩ := c.t.d.def_ 37 (d := d_is_within) rfl
  exact ⟨_, fd, He.glo_ok X G (c.t.d.fact 59 (f := .glo "is_within") rfl), F⟩
theorem h_f_is_requirement (X : K.In h) (G : h.Ns mainGlobals mg) (c : He.SaysX fa fn ts [] ex w h K) : DF K mg "is_requirement" s_is_requirement [] := by
  obtain ⟨fd, F⟩ := c.t.d.def_ 38 (d := d_is_requirement) rfl
  exact ⟨_, fd, He.glo_ok X G (c.t.d.fact 60 (f := .glo "is_requirement") rfl), F⟩
theorem h_f_is_sight (X : K.In h) (G : h.Ns mainGlobals mg) (c : He.SaysX fa fn ts [] ex w h K) : DF K mg "is_sight" s_is_sight [] := by
  obtain ⟨fd, F⟩ := c.t.d.def_ 39 (d := d_is_sight) rfl
  exact ⟨_, fd, He.glo_ok X G (c.t.d.fact 65 (f := .glo "is_sight") rfl), F⟩
theorem h_f_must (X : K.In h) (G : h.Ns mainGlobals mg) (c : He.SaysX fa fn ts [] ex w h K) : DF K mg "must" s_must [] := by
  obtain ⟨fd, F⟩ := c.t.d.def_ 40 (d := d_must) rfl
  exact ⟨_, fd, He.glo_ok X G (c.t.d.fact 73 (f := .glo "must") rfl), F⟩
theorem h_f_whole_in (X : K.In h) (G : h.Ns mainGlobals mg) (c : He.SaysX fa fn ts [] ex w h K) : DF K mg "whole_in" s_whole_in [] := by
  obtain ⟨fd, F⟩ := c.t.d.def_ 41 (d := d_whole_in) rfl
  exact ⟨_, fd, He.glo_ok X G (c.t.d.fact 74 (f := .glo "whole_in") rfl), F⟩
theorem h_f_number_in (X : K.In h) (G : h.Ns mainGlobals mg) (c : He.SaysX fa fn ts [] ex w h K) : DF K mg "number_in" s_number_in [] := by
  obtain ⟨fd, F⟩ := c.t.d.def_ 42 (d := d_number_in) rfl
  exact ⟨_, fd, He.glo_ok X G (c.t.d.fact 75 (f := .glo "number_in") rfl), F⟩
theorem h_f_name_in (X : K.In h) (G : h.Ns mainGlobals mg) (c : He.SaysX fa fn ts [] ex w h K) : DF K mg "name_in" s_name_in [] := by
  obtain ⟨fd, F⟩ := c.t.d.def_ 43 (d := d_name_in) rfl
  exact ⟨_, fd, He.glo_ok X G (c.t.d.fact 76 (f := .glo "name_in") rfl), F⟩
theorem h_f_show_part (X : K.In h) (G : h.Ns mainGlobals mg) (c : He.SaysX fa fn ts [] ex w h K) : DF K mg "show_part" s_show_part [] := by
  obtain ⟨fd, F⟩ := c.t.d.def_ 44 (d := d_show_part) rfl
  exact ⟨_, fd, He.glo_ok X G (c.t.d.fact 77 (f := .glo "show_part") rfl), F⟩
theorem h_f_parts_of (X : K.In h) (G : h.Ns mainGlobals mg) (c : He.SaysX fa fn ts [] ex w h K) : DF K mg "parts_of" s_parts_of [] := by
  obtain ⟨fd, F⟩ := c.t.d.def_ 45 (d := d_parts_of) rfl
  exact ⟨_, fd, He.glo_ok X G (c.t.d.fact 78 (f := .glo "parts_of") rfl), F⟩
theorem h_f_show_requirement (X : K.In h) (G : h.Ns mainGlobals mg) (c : He.SaysX fa fn ts [] ex w h K) : DF K mg "show_requirement" s_show_requirement [] := by
  obtain ⟨fd, F⟩ := c.t.d.def_ 46 (d := d_show_requirement) rfl
  exact ⟨_, fd, He.glo_ok X G (c.t.d.fact 79 (f := .glo "show_requirement") rfl), F⟩
theorem h_f_part_in (X : K.In h) (G : h.Ns mainGlobals mg) (c : He.SaysX fa fn ts [] ex w h K) : DF K mg "part_in" s_part_in [] := by
  obtain ⟨fd, F⟩ := c.t.d.def_ 47 (d := d_part_in) rfl
  exact ⟨_, fd, He.glo_ok X G (c.t.d.fact 80 (f := .glo "part_in") rfl), F⟩
theorem h_f_expression_in (X : K.In h) (G : h.Ns mainGlobals mg) (c : He.SaysX fa fn ts [] ex w h K) : DF K mg "expression_in" s_expression_in [] := by
  obtain ⟨fd, F⟩ := c.t.d.def_ 48 (d := d_expression_in) rfl
  exact ⟨_, fd, He.glo_ok X G (c.t.d.fact 81 (f := .glo "expression_in") rfl), F⟩
theorem h_f_read_requirement (X : K.In h) (G : h.Ns mainGlobals mg) (c : He.SaysX fa fn ts [] ex w h K) : DF K mg "read_requirement" s_read_requirement [] := by
  obtain ⟨fd, F⟩ := c.t.d.def_ 49 (d := d_read_requirement) rfl
  exact ⟨_, fd, He.glo_ok X G (c.t.d.fact 82 (f := .glo "read_requirement") rfl), F⟩
theorem h_f_show_sight (X : K.In h) (G : h.Ns mainGlobals mg) (c : He.SaysX fa fn ts [] ex w h K) : DF K mg "show_sight" s_show_sight [] := by
  obtain ⟨fd, F⟩ := c.t.d.def_ 50 (d := d_show_sight) rfl
  exact ⟨_, fd, He.glo_ok X G (c.t.d.fact 83 (f := .glo "show_sight") rfl), F⟩
theorem h_f_read_sight (X : K.In h) (G : h.Ns mainGlobals mg) (c : He.SaysX fa fn ts [] ex w h K) : DF K mg "read_sight" s_read_sight [] := by
  obtain ⟨fd, F⟩ := c.t.d.def_ 51 (d := d_read_sight) rfl
  exact ⟨_, fd, He.glo_ok X G (c.t.d.fact 84 (f := .glo "read_sight") rfl), F⟩
theorem h_f_show_measure (X : K.In h) (G : h.Ns mainGlobals mg) (c : He.SaysX fa fn ts [] ex w h K) : DF K mg "show_measure" s_show_measure [] := by
  obtain ⟨fd, F⟩ := c.t.d.def_ 52 (d := d_show_measure) rfl
  exact ⟨_, fd, He.glo_ok X G (c.t.d.fact 85 (f := .glo "show_measure") rfl), F⟩
theorem h_f_read_measure (X : K.In h) (G : h.Ns mainGlobals mg) (c : He.SaysX fa fn ts [] ex w h K) : DF K mg "read_measure" s_read_measure [] := by
  obtain ⟨fd, F⟩ := c.t.d.def_ 53 (d := d_read_measure) rfl
  exact ⟨_, fd, He.glo_ok X G (c.t.d.fact 86 (f := .glo "read_measure") rfl), F⟩
theorem h_f_show_box (X : K.In h) (G : h.Ns mainGlobals mg) (c : He.SaysX fa fn ts [] ex w h K) : DF K mg "show_box" s_show_box [] := by
  obtain ⟨fd, F⟩ := c.t.d.def_ 54 (d := d_show_box) rfl
  exact ⟨_, fd, He.glo_ok X G (c.t.d.fact 87 (f := .glo "show_box") rfl), F⟩
theorem h_f_read_box (X : K.In h) (G : h.Ns mainGlobals mg) (c : He.SaysX fa fn ts [] ex w h K) : DF K mg "read_box" s_read_box [] := by
  obtain ⟨fd, F⟩ := c.t.d.def_ 55 (d := d_read_box) rfl
  exact ⟨_, fd, He.glo_ok X G (c.t.d.fact 88 (f := .glo "read_box") rfl), F⟩
theorem h_f__law_deck (X : K.In h) (G : h.Ns mainGlobals mg) (c : He.SaysX fa fn ts [] ex w h K) : DF K mg "_law_deck" s__law_deck [] := by
  obtain ⟨fd, F⟩ := c.t.d.def_ 56 (d := d__law_deck) rfl
  exact ⟨_, fd, He.glo_ok X G (c.t.d.fact 89 (f := .glo "_law_deck") rfl), F⟩
theorem h_f__law_draw (X : K.In h) (G : h.Ns mainGlobals mg) (c : He.SaysX fa fn ts [] ex w h K) : DF K mg "_law_draw" s__law_draw [] := by
  obtain ⟨fd, F⟩ := c.t.d.def_ 57 (d := d__law_draw) rfl
  exact ⟨_, fd, He.glo_ok X G (c.t.d.fact 90 (f := .glo "_law_draw") rfl), F⟩
theorem h_f__law_pick (X : K.In h) (G : h.Ns mainGlobals mg) (c : He.SaysX fa fn ts [] ex w h K) : DF K mg "_law_pick" s__law_pick [] := by
  obtain ⟨fd, F⟩ := c.t.d.def_ 58 (d := d__law_pick) rfl
  exact ⟨_, fd, He.glo_ok X G (c.t.d.fact 91 (f := .glo "_law_pick") rfl), F⟩
theorem h_f__law_same (X : K.In h) (G : h.Ns mainGlobals mg) (c : He.SaysX fa fn ts [] ex w h K) : DF K mg "_law_same" s__law_same [] := by
  obtain ⟨fd, F⟩ := c.t.d.def_ 59 (d := d__law_same) rfl
  exact ⟨_, fd, He.glo_ok X G (c.t.d.fact 92 (f := .glo "_law_same") rfl), F⟩
theorem h_f__law_program (X : K.In h) (G : h.Ns mainGlobals mg) (c : He.SaysX fa fn ts [] ex w h K) : DF K mg "_law_program" s__law_program [] := by
  obtain ⟨fd, F⟩ := c.t.d.def_ 60 (d := d__law_program) rfl
  exact ⟨_, fd, He.glo_ok X G (c.t.d.fact 93 (f := .glo "_law_program") rfl), F⟩
theorem h_f__law_number (X : K.In h) (G : h.Ns mainGlobals mg) (c : He.SaysX fa fn ts [] ex w h K) : DF K mg "_law_number" s__law_number [] := by
  obtain ⟨fd, F⟩ := c.t.d.def_ 61 (d := d__law_number) rfl
  exact ⟨_, fd, He.glo_ok X G (c.t.d.fact 94 (f := .glo "_law_number") rfl), F⟩
theorem h_f__law_shown (X : K.In h) (G : h.Ns mainGlobals mg) (c : He.SaysX fa fn ts [] ex w h K) : DF K mg "_law_shown" s__law_shown [] := by
  obtain ⟨fd, F⟩ := c.t.d.def_ 62 (d := d__law_shown) rfl
  exact ⟨_, fd, He.glo_ok X G (c.t.d.fact 95 (f := .glo "_law_shown") rfl), F⟩
theorem h_f__law_expression (X : K.In h) (G : h.Ns mainGlobals mg) (c : He.SaysX fa fn ts [] ex w h K) : DF K mg "_law_expression" s__law_expression [] := by
  obtain ⟨fd, F⟩ := c.t.d.def_ 63 (d := d__law_expression) rfl
  exact ⟨_, fd, He.glo_ok X G (c.t.d.fact 96 (f := .glo "_law_expression") rfl), F⟩
theorem h_f__law_written (X : K.In h) (G : h.Ns mainGlobals mg) (c : He.SaysX fa fn ts [] ex w h K) : DF K mg "_law_written" s__law_written [] := by
  obtain ⟨fd, F⟩ := c.t.d.def_ 64 (d := d__law_written) rfl
  exact ⟨_, fd, He.glo_ok X G (c.t.d.fact 97 (f := .glo "_law_written") rfl), F⟩
theorem h_f__law_name (X : K.In h) (G : h.Ns mainGlobals mg) (c : He.SaysX fa fn ts [] ex w h K) : DF K mg "_law_name" s__law_name [] := by
  obtain ⟨fd, F⟩ := c.t.d.def_ 65 (d := d__law_name) rfl
  exact ⟨_, fd, He.glo_ok X G (c.t.d.fact 98 (f := .glo "_law_name") rfl), F⟩
theorem h_f__law_event (X : K.In h) (G : h.Ns mainGlobals mg) (c : He.SaysX fa fn ts [] ex w h K) : DF K mg "_law_event" s__law_event [] := by
  obtain ⟨fd, F⟩ := c.t.d.def_ 66 (d := d__law_event) rfl
  exact ⟨_, fd, He.glo_ok X G (c.t.d.fact 99 (f := .glo "_law_event") rfl), F⟩
theorem h_f__law_part (X : K.In h) (G : h.Ns mainGlobals mg) (c : He.SaysX fa fn ts [] ex w h K) : DF K mg "_law_part" s__law_part [] := by
  obtain ⟨fd, F⟩ := c.t.d.def_ 67 (d := d__law_part) rfl
  exact ⟨_, fd, He.glo_ok X G (c.t.d.fact 100 (f := .glo "_law_part") rfl), F⟩
theorem h_f__law_requirement (X : K.In h) (G : h.Ns mainGlobals mg) (c : He.SaysX fa fn ts [] ex w h K) : DF K mg "_law_requirement" s__law_requirement [] := by
  obtain ⟨fd, F⟩ := c.t.d.def_ 68 (d := d__law_requirement) rfl
  exact ⟨_, fd, He.glo_ok X G (c.t.d.fact 101 (f := .glo "_law_requirement") rfl), F⟩
theorem h_f__law_flat (X : K.In h) (G : h.Ns mainGlobals mg) (c : He.SaysX fa fn ts [] ex w h K) : DF K mg "_law_flat" s__law_flat [] := by
  obtain ⟨fd, F⟩ := c.t.d.def_ 69 (d := d__law_flat) rfl
  exact ⟨_, fd, He.glo_ok X G (c.t.d.fact 102 (f := .glo "_law_flat") rfl), F⟩
theorem h_f__law_part_text (X : K.In h) (G : h.Ns mainGlobals mg) (c : He.SaysX fa fn ts [] ex w h K) : DF K mg "_law_part_text" s__law_part_text [] := by
  obtain ⟨fd, F⟩ := c.t.d.def_ 70 (d := d__law_part_text) rfl
  exact ⟨_, fd, He.glo_ok X G (c.t.d.fact 103 (f := .glo "_law_part_text") rfl), F⟩
theorem h_f__law_requirement_text (X : K.In h) (G : h.Ns mainGlobals mg) (c : He.SaysX fa fn ts [] ex w h K) : DF K mg "_law_requirement_text" s__law_requirement_text [] := by
  obtain ⟨fd, F⟩ := c.t.d.def_ 71 (d := d__law_requirement_text) rfl
  exact ⟨_, fd, He.glo_ok X G (c.t.d.fact 104 (f := .glo "_law_requirement_text") rfl), F⟩
theorem h_f__law_read_back (X : K.In h) (G : h.Ns mainGlobals mg) (c : He.SaysX fa fn ts [] ex w h K) : DF K mg "_law_read_back" s__law_read_back [] := by
  obtain ⟨fd, F⟩ := c.t.d.def_ 72 (d := d__law_read_back) rfl
  exact ⟨_, fd, He.glo_ok X G (c.t.d.fact 105 (f := .glo "_law_read_back") rfl), F⟩
theorem h_f__law_sight (X : K.In h) (G : h.Ns mainGlobals mg) (c : He.SaysX fa fn ts [] ex w h K) : DF K mg "_law_sight" s__law_sight [] := by
  obtain ⟨fd, F⟩ := c.t.d.def_ 73 (d := d__law_sight) rfl
  exact ⟨_, fd, He.glo_ok X G (c.t.d.fact 106 (f := .glo "_law_sight") rfl), F⟩
theorem h_f__law_sight_text (X : K.In h) (G : h.Ns mainGlobals mg) (c : He.SaysX fa fn ts [] ex w h K) : DF K mg "_law_sight_text" s__law_sight_text [] := by
  obtain ⟨fd, F⟩ := c.t.d.def_ 74 (d := d__law_sight_text) rfl
  exact ⟨_, fd, He.glo_ok X G (c.t.d.fact 107 (f := .glo "_law_sight_text") rfl), F⟩
theorem h_f__law_less (X : K.In h) (G : h.Ns mainGlobals mg) (c : He.SaysX fa fn ts [] ex w h K) : DF K mg "_law_less" s__law_less [] := by
  obtain ⟨fd, F⟩ := c.t.d.def_ 75 (d := d__law_less) rfl
  exact ⟨_, fd, He.glo_ok X G (c.t.d.fact 108 (f := .glo "_law_less") rfl), F⟩
theorem h_f__law_measure (X : K.In h) (G : h.Ns mainGlobals mg) (c : He.SaysX fa fn ts [] ex w h K) : DF K mg "_law_measure" s__law_measure [] := by
  obtain ⟨fd, F⟩ := c.t.d.def_ 76 (d := d__law_measure) rfl
  exact ⟨_, fd, He.glo_ok X G (c.t.d.fact 109 (f := .glo "_law_measure") rfl), F⟩
theorem h_f__law_measure_text (X : K.In h) (G : h.Ns mainGlobals mg) (c : He.SaysX fa fn ts [] ex w h K) : DF K mg "_law_measure_text" s__law_measure_text [] := by
  obtain ⟨fd, F⟩ := c.t.d.def_ 77 (d := d__law_measure_text) rfl
  exact ⟨_, fd, He.glo_ok X G (c.t.d.fact 110 (f := .glo "_law_measure_text") rfl), F⟩
theorem h_f__law_box (X : K.In h) (G : h.Ns mainGlobals mg) (c : He.SaysX fa fn ts [] ex w h K) : DF K mg "_law_box" s__law_box [] := by
  obtain ⟨fd, F⟩ := c.t.d.def_ 78 (d := d__law_box) rfl
  exact ⟨_, fd, He.glo_ok X G (c.t.d.fact 111 (f := .glo "_law_box") rfl), F⟩
theorem h_f__law_box_text (X : K.In h) (G : h.Ns mainGlobals mg) (c : He.SaysX fa fn ts [] ex w h K) : DF K mg "_law_box_text" s__law_box_text [] := by
  obtain ⟨fd, F⟩ := c.t.d.def_ 79 (d := d__law_box_text) rfl
  exact ⟨_, fd, He.glo_ok X G (c.t.d.fact 112 (f := .glo "_law_box_text") rfl), F⟩
theorem h_f__law_is_requirement_right (X : K.In h) (G : h.Ns mainGlobals mg) (c : He.SaysX fa fn ts [] ex w h K) : DF K mg "_law_is_requirement_right" s__law_is_requirement_right [] := by
  obtain ⟨fd, F⟩ := c.t.d.def_ 80 (d := d__law_is_requirement_right) rfl
  exact ⟨_, fd, He.glo_ok X G (c.t.d.fact 113 (f := .glo "_law_is_requirement_right") rfl), F⟩
theorem h_f__law_is_box_right (X : K.In h) (G : h.Ns mainGlobals mg) (c : He.SaysX fa fn ts [] ex w h K) : DF K mg "_law_is_box_right" s__law_is_box_right [] := by
  obtain ⟨fd, F⟩ := c.t.d.def_ 81 (d := d__law_is_box_right) rfl
  exact ⟨_, fd, He.glo_ok X G (c.t.d.fact 114 (f := .glo "_law_is_box_right") rfl), F⟩
theorem h_f_law (X : K.In h) (G : h.Ns mainGlobals mg) (c : He.SaysX fa fn ts [] ex w h K) : DF K mg "law" s_law [] := by
  obtain ⟨fd, F⟩ := c.t.d.def_ 82 (d := d_law) rfl
  exact ⟨_, fd, He.glo_ok X G (c.t.d.fact 115 (f := .glo "law") rfl), F⟩
theorem signs_vals (c : He.SaysX fa fn ts [] ex w h K) : He.valsB K (He.ga K "SIGNS") [("plus", .str " + "), ("minus", .str " - "), ("times", .str " * ")] = true := (Bool.and_eq_true_iff.mp c.more).1
theorem h_SIGNS (X : K.In h) (G : h.Ns mainGlobals mg) (c : He.SaysX fa fn ts [] ex w h K) : Tab K w mg "SIGNS" tSIGNS := by
  obtain ⟨es, n, D⟩ := c.t.tab 0
  have hv := signs_vals c
  refine ⟨He.ga K "SIGNS", He.glo_ok X G (c.t.d.fact 35 (f := .glo "SIGNS") rfl), fun y d e => ?_⟩
  have key : ∀ {k v : Str}, ((k, He.Dv.str v) ∈ ([("plus", .str " + "), ("minus", .str " - "), ("times", .str " * ")] : List (Str × He.Dv))) → ∃ v', KDct K w (He.ga K "SIGNS") k v' ∧ ∀ F, Rp K F v' (.str v) := fun {k v} hk => by
    obtain ⟨u, h1, h2⟩ := He.valsB_ok hv hk
    exact ⟨.str v, ⟨es, n, u, D.at_, D.lit, h1, h2⟩, fun _ => .str v⟩
  unfold tSIGNS findD at e
  split at e
  · rename_i q; subst q; cases e; exact key (by simp)
  · unfold findD at e
    split at e
    · rename_i q; subst q; cases e; exact key (by simp)
    · unfold findD at e
      split at e
      · rename_i q; subst q; cases e; exact key (by simp)
      · cases e
theorem dicW_get {a : Addr} {l : List (Option (Str × Int))} (e : He.dicW K a = some l) : ∃ es n, K.lookup a = some ⟨.type "dict", none, .dict es n, #[]⟩ ∧ (a == sysModules) = false ∧ es.toList.map He.keyOf = l := by
  unfold He.dicW at e
  split at e
  · rename_i cc es n sl hk
    split at e
    · rename_i hb
      cases e
      simp only [Bool.and_eq_true, decide_eq_true_eq, Bool.not_eq_true'] at hb
      obtain ⟨rfl, h2, h3⟩ := hb
      have := Array.isEmpty_iff.mp h2
      subst this
      exact ⟨es, n, hk, h3, rfl⟩
    · cases e
  · cases e
theorem keyOf_some {e : DictEntry} {x : Str} {n : Int} (h : He.keyOf e = some (x, n)) : (∃ t, e.key = .str x t) ∧ e.hash = n := by
  unfold He.keyOf at h
  split at h
  · rename_i y t q
    cases h
    exact ⟨⟨t, q⟩, rfl⟩
  · cases h
theorem h_SIGNS2 (X : K.In h) (G : h.Ns mainGlobals mg) (c : He.SaysX fa fn ts [] ex w h K) : TabC w K mg "SIGNS" tSIGNS := by
  have hd : He.dicW K (He.ga K "SIGNS") = some (He.keysIn w.params ["plus", "minus", "times"]) := by
    have e : ts.map (fun t => He.dicW K (t.1 K)) = ts.map fun t => some (He.keysIn w.params t.2) := congrArg (fun z : He.AlT => z.2) c.t
    exact (List.cons.inj e).1
  obtain ⟨es, n, hk, hs, he⟩ := dicW_get hd
  obtain ⟨u1, n1, r1⟩ := He.valsB_ok (signs_vals c) (q := ("plus", .str " + ")) (by simp)
  obtain ⟨u2, n2, r2⟩ := He.valsB_ok (signs_vals c) (q := ("minus", .str " - ")) (by simp)
  obtain ⟨u3, n3, r3⟩ := He.valsB_ok (signs_vals c) (q := ("times", .str " * ")) (by simp)
  refine ⟨He.ga K "SIGNS", [(.inr "plus", .str " + "), (.inr "minus", .str " - "), (.inr "times", .str " * ")], He.glo_ok X G (c.t.d.fact 35 (f := .glo "SIGNS") rfl), fun P => ?_, fun F => ⟨rfl, .str _, rfl, .str _, rfl, .str _, trivial⟩⟩
  match hes : es.toList, he with
  | [e1, e2, e3], he =>
    have he' : [He.keyOf e1, He.keyOf e2, He.keyOf e3] = [some (("plus" : Str), PyData.keyHash w.params "plus"), some ("minus", PyData.keyHash w.params "minus"), some ("times", PyData.keyHash w.params "times")] := he
    simp only [List.cons.injEq, and_true] at he'
    obtain ⟨k1, k2, k3⟩ := he'
    obtain ⟨⟨t1, q1⟩, p1⟩ := keyOf_some k1
    obtain ⟨⟨t2, q2⟩, p2⟩ := keyOf_some k2
    obtain ⟨⟨t3, q3⟩, p3⟩ := keyOf_some k3
    have v1 : u1 = e1.val := by
      unfold PySem.W.nsIn at n1
      rw [hk] at n1
      simp only [hes, List.find?_cons, q1] at n1
      have z : (Value.str (Str.ofString "plus") t1).isStr (Str.ofString "plus") = true := by unfold Value.isStr; simp
      rw [z] at n1
      exact (Option.some.inj (Option.some.inj n1)).symm
    have v2 : u2 = e2.val := by
      unfold PySem.W.nsIn at n2
      rw [hk] at n2
      simp only [hes, List.find?_cons, q1, q2] at n2
      have z : (Value.str (Str.ofString "plus") t1).isStr (Str.ofString "minus") = false := by show (Str.ofString "plus" == Str.ofString "minus") = false; decide +kernel
      have z2 : (Value.str (Str.ofString "minus") t2).isStr (Str.ofString "minus") = true := by unfold Value.isStr; simp
      rw [z, z2] at n2
      exact (Option.some.inj (Option.some.inj n2)).symm
    have v3 : u3 = e3.val := by
      unfold PySem.W.nsIn at n3
      rw [hk] at n3
      simp only [hes, List.find?_cons, q1, q2, q3] at n3
      have z : (Value.str (Str.ofString "plus") t1).isStr (Str.ofString "times") = false := by show (Str.ofString "plus" == Str.ofString "times") = false; decide +kernel
      have z2 : (Value.str (Str.ofString "minus") t2).isStr (Str.ofString "times") = false := by show (Str.ofString "minus" == Str.ofString "times") = false; decide +kernel
      have z3 : (Value.str (Str.ofString "times") t3).isStr (Str.ofString "times") = true := by unfold Value.isStr; simp
      rw [z, z2, z3] at n3
      exact (Option.some.inj (Option.some.inj n3)).symm
    subst v1 v2 v3
    have i1 : (mixKind P w).is (.inr "plus") e1.key = true := by rw [q1]; exact mixKind_str P w _ _
    have i2 : (mixKind P w).is (.inr "minus") e2.key = true := by rw [q2]; exact mixKind_str P w _ _
    have i3 : (mixKind P w).is (.inr "times") e3.key = true := by rw [q3]; exact mixKind_str P w _ _
    refine ⟨hs, (by show 3 ≤ sizeLine; decide), es, n, [(.inr "plus", e1.val), (.inr "minus", e2.val), (.inr "times", e3.val)], hk, .cons ⟨rfl, r1⟩ (.cons ⟨rfl, r2⟩ (.cons ⟨rfl, r3⟩ .nil)), fun e hm => ?_, ?_, ?_⟩
    · have hm' : e ∈ es.toList := by simpa using hm
      rw [hes] at hm'
      simp only [List.mem_cons, List.not_mem_nil, or_false] at hm'
      rcases hm' with rfl | rfl | rfl
      · exact ⟨.inr "plus", i1, p1⟩
      · exact ⟨.inr "minus", i2, p2⟩
      · exact ⟨.inr "times", i3, p3⟩
    · rw [hes]
      exact .cons i1 rfl (.cons i2 rfl (.cons i3 rfl .nil))
    · show ([Sum.inr "plus", Sum.inr "minus", Sum.inr "times"] : List Key).Nodup
      decide +kernel
  | [], he => exact absurd (congrArg List.length he) (by simp [He.keysIn])
  | [_], he => exact absurd (congrArg List.length he) (by simp [He.keysIn])
  | [_, _], he => exact absurd (congrArg List.length he) (by simp [He.keysIn])
  | _ :: _ :: _ :: _ :: _, he => exact absurd (congrArg List.length he) (by simp [He.keysIn])

theorem h_rdr (X : K.In h) (G : h.Ns mainGlobals mg) (c : He.SaysX fa fn ts [] ex w h K) : Rdr K mg (He.ga K "LineReader") where
  gl := He.glo_ok X G (c.t.d.fact 37 (f := .glo "LineReader") rfl)
  rc := ⟨He.cls_ok (c.t.d.fact 38 (f := .cls "LineReader") rfl), He.noat_ok (c.t.d.fact 40 (f := .noat "LineReader" "number_of_line") rfl), He.noat_ok (c.t.d.fact 41 (f := .noat "LineReader" "line_text") rfl), He.noat_ok (c.t.d.fact 42 (f := .noat "LineReader" "place") rfl)⟩
  mker := by
    obtain ⟨fd, F⟩ := c.t.d.def_ 22 (d := d_LineReader_init) rfl
    exact ⟨_, fd, He.mkr_ok (c.t.d.fact 39 (f := .mkr "LineReader") rfl), F⟩
  m_starts := by
    obtain ⟨fd, F⟩ := c.t.d.def_ 23 (d := d_LineReader_starts) rfl
    exact ⟨_, fd, He.meth_ok (c.t.d.fact 43 (f := .meth "LineReader" "starts") rfl), F⟩
  m_take := by
    obtain ⟨fd, F⟩ := c.t.d.def_ 24 (d := d_LineReader_take) rfl
    exact ⟨_, fd, He.meth_ok (c.t.d.fact 44 (f := .meth "LineReader" "take") rfl), F⟩
  m_take_one := by
    obtain ⟨fd, F⟩ := c.t.d.def_ 25 (d := d_LineReader_take_one) rfl
    exact ⟨_, fd, He.meth_ok (c.t.d.fact 45 (f := .meth "LineReader" "take_one") rfl), F⟩
  m_take_run := by
    obtain ⟨fd, F⟩ := c.t.d.def_ 26 (d := d_LineReader_take_run) rfl
    exact ⟨_, fd, He.meth_ok (c.t.d.fact 46 (f := .meth "LineReader" "take_run") rfl), F⟩
  m_take_end := by
    obtain ⟨fd, F⟩ := c.t.d.def_ 27 (d := d_LineReader_take_end) rfl
    exact ⟨_, fd, He.meth_ok (c.t.d.fact 47 (f := .meth "LineReader" "take_end") rfl), F⟩
  m_take_name := by
    obtain ⟨fd, F⟩ := c.t.d.def_ 28 (d := d_LineReader_take_name) rfl
    exact ⟨_, fd, He.meth_ok (c.t.d.fact 48 (f := .meth "LineReader" "take_name") rfl), F⟩
  m_take_integer := by
    obtain ⟨fd, F⟩ := c.t.d.def_ 29 (d := d_LineReader_take_integer) rfl
    exact ⟨_, fd, He.meth_ok (c.t.d.fact 49 (f := .meth "LineReader" "take_integer") rfl), F⟩
  m_take_expression := by
    obtain ⟨fd, F⟩ := c.t.d.def_ 30 (d := d_LineReader_take_expression) rfl
    exact ⟨_, fd, He.meth_ok (c.t.d.fact 50 (f := .meth "LineReader" "take_expression") rfl), F⟩
  m_take_pair := by
    obtain ⟨fd, F⟩ := c.t.d.def_ 31 (d := d_LineReader_take_pair) rfl
    exact ⟨_, fd, He.meth_ok (c.t.d.fact 51 (f := .meth "LineReader" "take_pair") rfl), F⟩
  m_take_condition := by
    obtain ⟨fd, F⟩ := c.t.d.def_ 32 (d := d_LineReader_take_condition) rfl
    exact ⟨_, fd, He.meth_ok (c.t.d.fact 52 (f := .meth "LineReader" "take_condition") rfl), F⟩
  m_take_given := by
    obtain ⟨fd, F⟩ := c.t.d.def_ 33 (d := d_LineReader_take_given) rfl
    exact ⟨_, fd, He.meth_ok (c.t.d.fact 53 (f := .meth "LineReader" "take_given") rfl), F⟩
theorem tp_of (X : K.In h) (G : h.Ns mainGlobals mg) (c : He.SaysX fa fn ts [] ex w h K) : Tp K w mg where
  f_is_integer := h_f_is_integer X G c
  f_common_divisor := h_f_common_divisor X G c
  f_is_number := h_f_is_number X G c
  f_top_of := h_f_top_of X G c
  f_bottom_of := h_f_bottom_of X G c
  f_is_less := h_f_is_less X G c
  f_show_number := h_f_show_number X G c
  f_is_box := h_f_is_box X G c
  f_is_integer_from := h_f_is_integer_from X G c
  f_is_event_name := h_f_is_event_name X G c
  f_show_name := h_f_show_name X G c
  f_is_digits := h_f_is_digits X G c
  f_read_name := h_f_read_name X G c
  f_are_pairs := h_f_are_pairs X G c
  f_is_between := h_f_is_between X G c
  f_is_in_range := h_f_is_in_range X G c
  f_is_name := h_f_is_name X G c
  f_is_one_of := h_f_is_one_of X G c
  f_is_expression := h_f_is_expression X G c
  f_is_measure := h_f_is_measure X G c
  f_show_expression := h_f_show_expression X G c
  f_is_index := h_f_is_index X G c
  f_is_ends := h_f_is_ends X G c
  f_is_emits := h_f_is_emits X G c
  f_is_within := h_f_is_within X G c
  f_is_requirement := h_f_is_requirement X G c
  f_is_sight := h_f_is_sight X G c
  f_must := h_f_must X G c
  f_whole_in := h_f_whole_in X G c
  f_number_in := h_f_number_in X G c
  f_name_in := h_f_name_in X G c
  f_show_part := h_f_show_part X G c
  f_parts_of := h_f_parts_of X G c
  f_show_requirement := h_f_show_requirement X G c
  f_part_in := h_f_part_in X G c
  f_expression_in := h_f_expression_in X G c
  f_read_requirement := h_f_read_requirement X G c
  f_show_sight := h_f_show_sight X G c
  f_read_sight := h_f_read_sight X G c
  f_show_measure := h_f_show_measure X G c
  f_read_measure := h_f_read_measure X G c
  f_show_box := h_f_show_box X G c
  f_read_box := h_f_read_box X G c
  f__law_deck := h_f__law_deck X G c
  f__law_draw := h_f__law_draw X G c
  f__law_pick := h_f__law_pick X G c
  f__law_same := h_f__law_same X G c
  f__law_program := h_f__law_program X G c
  f__law_number := h_f__law_number X G c
  f__law_shown := h_f__law_shown X G c
  f__law_expression := h_f__law_expression X G c
  f__law_written := h_f__law_written X G c
  f__law_name := h_f__law_name X G c
  f__law_event := h_f__law_event X G c
  f__law_part := h_f__law_part X G c
  f__law_requirement := h_f__law_requirement X G c
  f__law_flat := h_f__law_flat X G c
  f__law_part_text := h_f__law_part_text X G c
  f__law_requirement_text := h_f__law_requirement_text X G c
  f__law_read_back := h_f__law_read_back X G c
  f__law_sight := h_f__law_sight X G c
  f__law_sight_text := h_f__law_sight_text X G c
  f__law_less := h_f__law_less X G c
  f__law_measure := h_f__law_measure X G c
  f__law_measure_text := h_f__law_measure_text X G c
  f__law_box := h_f__law_box X G c
  f__law_box_text := h_f__law_box_text X G c
  f__law_is_requirement_right := h_f__law_is_requirement_right X G c
  f__law_is_box_right := h_f__law_is_box_right X G c
  f_law := h_f_law X G c
  g_BOX_PARTS := by
    obtain ⟨t, e⟩ := He.int_ok X G (c.t.d.fact 11 (f := .int "BOX_PARTS" 3) rfl)
    exact ⟨.int 3, _, e, ⟨t, rfl⟩, fun _ => .int _⟩
  g_KINDS := ⟨.ref (He.ga K "KINDS"), _, He.glo_ok X G (c.t.d.fact 13 (f := .glo "KINDS") rfl), rfl, fun F => .tup (He.tupB_ok (Bool.and_eq_true_iff.mp (Bool.and_eq_true_iff.mp c.more).2).1 F) (.cons (.str _) (.cons (.str _) (.cons (.str _) (.cons (.str _) (.cons (.str _) (.nil))))))⟩
  g_DIGITS_eventnames := by
    obtain ⟨t, e⟩ := He.str_ok X G (c.t.d.fact 14 (f := .str "DIGITS_eventnames" "0123456789") rfl)
    exact ⟨.str "0123456789", _, e, ⟨t, rfl⟩, fun _ => .str _⟩
  g_LETTERS := by
    obtain ⟨t, e⟩ := He.str_ok X G (c.t.d.fact 21 (f := .str "LETTERS" "abcdefghijklmnopqrstuvwxyz") rfl)
    exact ⟨.str "abcdefghijklmnopqrstuvwxyz", _, e, ⟨t, rfl⟩, fun _ => .str _⟩
  g_LONGEST_NAME := by
    obtain ⟨t, e⟩ := He.int_ok X G (c.t.d.fact 22 (f := .int "LONGEST_NAME" 8) rfl)
    exact ⟨.int 8, _, e, ⟨t, rfl⟩, fun _ => .int _⟩
  g_FARTHEST := by
    obtain ⟨t, e⟩ := He.int_ok X G (c.t.d.fact 23 (f := .int "FARTHEST" 1000000) rfl)
    exact ⟨.int 1000000, _, e, ⟨t, rfl⟩, fun _ => .int _⟩
  g_MOST_LEVELS := by
    obtain ⟨t, e⟩ := He.int_ok X G (c.t.d.fact 24 (f := .int "MOST_LEVELS" 4) rfl)
    exact ⟨.int 4, _, e, ⟨t, rfl⟩, fun _ => .int _⟩
  g_MOST_PARTS := by
    obtain ⟨t, e⟩ := He.int_ok X G (c.t.d.fact 30 (f := .int "MOST_PARTS" 4) rfl)
    exact ⟨.int 4, _, e, ⟨t, rfl⟩, fun _ => .int _⟩
  g_DIGITS_programtexts := by
    obtain ⟨t, e⟩ := He.str_ok X G (c.t.d.fact 32 (f := .str "DIGITS_programtexts" "0123456789") rfl)
    exact ⟨.str "0123456789", _, e, ⟨t, rfl⟩, fun _ => .str _⟩
  g_MOST_DIGITS := by
    obtain ⟨t, e⟩ := He.int_ok X G (c.t.d.fact 33 (f := .int "MOST_DIGITS" 7) rfl)
    exact ⟨.int 7, _, e, ⟨t, rfl⟩, fun _ => .int _⟩
  g_MOST_PARENTHESES := by
    obtain ⟨t, e⟩ := He.int_ok X G (c.t.d.fact 34 (f := .int "MOST_PARENTHESES" 60) rfl)
    exact ⟨.int 60, _, e, ⟨t, rfl⟩, fun _ => .int _⟩
  g_LEVELS := by
    obtain ⟨t, e⟩ := He.int_ok X G (c.t.d.fact 54 (f := .int "LEVELS" 2) rfl)
    exact ⟨.int 2, _, e, ⟨t, rfl⟩, fun _ => .int _⟩
  g_ALONE := ⟨.ref (He.ga K "ALONE"), _, He.glo_ok X G (c.t.d.fact 55 (f := .glo "ALONE") rfl), rfl, fun F => .tup (He.tupB_ok (Bool.and_eq_true_iff.mp (Bool.and_eq_true_iff.mp c.more).2).2 F) (.cons (.str _) (.cons (.str _) (.nil)))⟩
  g_TIME := by
    obtain ⟨t, e⟩ := He.str_ok X G (c.t.d.fact 61 (f := .str "TIME" "time") rfl)
    exact ⟨.str "time", _, e, ⟨t, rfl⟩, fun _ => .str _⟩
  g_COMES := by
    obtain ⟨t, e⟩ := He.str_ok X G (c.t.d.fact 62 (f := .str "COMES" "comes") rfl)
    exact ⟨.str "comes", _, e, ⟨t, rfl⟩, fun _ => .str _⟩
  g_LATER := by
    obtain ⟨t, e⟩ := He.str_ok X G (c.t.d.fact 63 (f := .str "LATER" "later") rfl)
    exact ⟨.str "later", _, e, ⟨t, rfl⟩, fun _ => .str _⟩
  g_EMITS := by
    obtain ⟨t, e⟩ := He.str_ok X G (c.t.d.fact 64 (f := .str "EMITS" "emits") rfl)
    exact ⟨.str "emits", _, e, ⟨t, rfl⟩, fun _ => .str _⟩
  g_SPACE := by
    obtain ⟨t, e⟩ := He.str_ok X G (c.t.d.fact 66 (f := .str "SPACE" " ") rfl)
    exact ⟨.str " ", _, e, ⟨t, rfl⟩, fun _ => .str _⟩
  g_COMMA := by
    obtain ⟨t, e⟩ := He.str_ok X G (c.t.d.fact 67 (f := .str "COMMA" ",") rfl)
    exact ⟨.str ",", _, e, ⟨t, rfl⟩, fun _ => .str _⟩
  g_COLON := by
    obtain ⟨t, e⟩ := He.str_ok X G (c.t.d.fact 68 (f := .str "COLON" ":") rfl)
    exact ⟨.str ":", _, e, ⟨t, rfl⟩, fun _ => .str _⟩
  g_EQUALS := by
    obtain ⟨t, e⟩ := He.str_ok X G (c.t.d.fact 69 (f := .str "EQUALS" "=") rfl)
    exact ⟨.str "=", _, e, ⟨t, rfl⟩, fun _ => .str _⟩
  g_AND := by
    obtain ⟨t, e⟩ := He.str_ok X G (c.t.d.fact 70 (f := .str "AND" "; ") rfl)
    exact ⟨.str "; ", _, e, ⟨t, rfl⟩, fun _ => .str _⟩
  g_TIMES := by
    obtain ⟨t, e⟩ := He.str_ok X G (c.t.d.fact 71 (f := .str "TIMES" "*") rfl)
    exact ⟨.str "*", _, e, ⟨t, rfl⟩, fun _ => .str _⟩
  g_MOST_FIGURES := by
    obtain ⟨t, e⟩ := He.int_ok X G (c.t.d.fact 72 (f := .int "MOST_FIGURES" 40) rfl)
    exact ⟨.int 40, _, e, ⟨t, rfl⟩, fun _ => .int _⟩
  n_abs := He.free_ok X G (c.t.d.fact 117 (f := .free "abs") rfl)
  n_all := He.free_ok X G (c.t.d.fact 118 (f := .free "all") rfl)
  n_bool := He.free_ok X G (c.t.d.fact 119 (f := .free "bool") rfl)
  n_dict := He.free_ok X G (c.t.d.fact 120 (f := .free "dict") rfl)
  n_int := He.free_ok X G (c.t.d.fact 121 (f := .free "int") rfl)
  n_isinstance := He.free_ok X G (c.t.d.fact 122 (f := .free "isinstance") rfl)
  n_len := He.free_ok X G (c.t.d.fact 123 (f := .free "len") rfl)
  n_list := He.free_ok X G (c.t.d.fact 124 (f := .free "list") rfl)
  n_max := He.free_ok X G (c.t.d.fact 125 (f := .free "max") rfl)
  n_range := He.free_ok X G (c.t.d.fact 126 (f := .free "range") rfl)
  n_repr := He.free_ok X G (c.t.d.fact 127 (f := .free "repr") rfl)
  n_sorted := He.free_ok X G (c.t.d.fact 128 (f := .free "sorted") rfl)
  n_str := He.free_ok X G (c.t.d.fact 129 (f := .free "str") rfl)
  n_tuple := He.free_ok X G (c.t.d.fact 131 (f := .free "tuple") rfl)
  n_zip := He.free_ok X G (c.t.d.fact 132 (f := .free "zip") rfl)
  t_SIGNS := h_SIGNS X G c
  t_SIGNS2 := h_SIGNS2 X G c
  rdr := ⟨_, h_rdr X G c⟩
end
end K73

set_option maxHeartbeats 2000000
namespace K73
open PySem PySem.Spec PyProof.Rows L2 Pd
mutual
def eqD : PyData → PyData → Bool
  | .none, .none => true
  | .bool a, .bool b => a == b
  | .int a, .int b => decide (a = b)
  | .str a, .str b => decide (a.cps.toList = b.cps.toList)
  | .list a, .list b => eqDs a b
  | .tuple a, .tuple b => eqDs a b
  | _, _ => false
def eqDs : List PyData → List PyData → Bool
  | [], [] => true
  | a :: as, b :: bs => eqD a b && eqDs as bs
  | _, _ => false
end
mutual
theorem eqD_ok : ∀ (a b : PyData), eqD a b = true → a = b
  | .none, b, h => by cases b <;> simp [eqD] at h <;> rfl
  | .bool x, b, h => by cases b <;> simp [eqD] at h <;> rw [h]
  | .int x, b, h => by cases b <;> simp [eqD] at h <;> rw [h]
  | .str x, b, h => by
    cases b with
    | str y =>
      have h' : x.cps.toList = y.cps.toList := by simpa only [eqD, decide_eq_true_eq] using h
      rw [TL.ext_tl h']
    | _ => simp [eqD] at h
  | .list x, b, h => by
    cases b with
    | list y => rw [eqDs_ok x y (by simpa [eqD] using h)]
    | _ => simp [eqD] at h
  | .tuple x, b, h => by
    cases b with
    | tuple y => rw [eqDs_ok x y (by simpa [eqD] using h)]
    | _ => simp [eqD] at h
  | .dict x, b, h => by cases b <;> simp [eqD] at h
theorem eqDs_ok : ∀ (a b : List PyData), eqDs a b = true → a = b
  | [], b, h => by cases b <;> simp [eqDs] at h; rfl
  | x :: xs, b, h => by
    cases b with
    | nil => simp [eqDs] at h
    | cons y ys =>
      simp only [eqDs, Bool.and_eq_true] at h
      rw [eqD_ok x y h.1, eqDs_ok xs ys h.2]
end
def isO (o : Option PyData) (d : PyData) : Bool := match o with
  | some x => eqD x d
  | none => false
theorem isO_ok {o : Option PyData} {d : PyData} (h : isO o d = true) : o = some d := by
  unfold isO at h
  cases o with
  | none => cases h
  | some x => rw [eqD_ok x d h]
def tasksM : List PyData := [.int 0, .int 1, .int 2, .int 7]
def placesM : List PyData := [.int 0, .int 1, .int 2, .int (-1), .int 14]
def roundsM : List PyData := [.tuple [], .tuple [.int 0], .tuple [.int 3, .int 1], .tuple [.int 12]]
def kindsM : List PyData := [.str "start", .str "step", .str "done", .str "timer", .str "finish"]
def namesM : List PyData := tasksM.flatMap fun t => placesM.flatMap fun p => roundsM.flatMap fun r => kindsM.map fun k => .tuple [t, p, r, k]
def okName (n : PyData) : Bool := match m__law_event [n] with
  | some (.str t) => isO (m_show_name [n]) (.str t) && (isO (m_name_in [.str t]) n && (isO (m_is_event_name [n]) (.bool true) && (t.cps.toList.all (fun c => c != 32 && c != 42) && Nat.ble t.length 40)))
  | _ => false
def numsM : List PyData := [.int 0, .int 1, .int 2, .int 3, .int 5, .int 8, .int (-1), .int (-4), .tuple [.int 1, .int 2], .tuple [.int 5, .int 2], .tuple [.int (-3), .int 2], .tuple [.int 7, .int 3], .tuple [.int 1000000000001, .int 10], .int 100000000000000000000]
def okNum (n : PyData) : Bool := match m__law_shown [n] with
  | some (.str t) => isO (m_show_number [n]) (.str t) && (isO (m_number_in [.str t]) n && (isO (m_is_number [n]) (.bool true) && (t.cps.toList.all (fun c => c != 32 && (c != 42 && (c != 44 && (c != 58 && c != 59)))) && (Nat.ble t.length 40 && Nat.ble 1 t.length))))
  | _ => false
theorem num0 : numsM.all okNum = true := by decide +kernel
def chunkM (t p : PyData) : List PyData := roundsM.flatMap fun r => kindsM.map fun k => .tuple [t, p, r, k]
theorem nm00 : (chunkM (.int 0) (.int 0)).all okName = true := by decide +kernel
theorem nm01 : (chunkM (.int 0) (.int 1)).all okName = true := by decide +kernel
theorem nm02 : (chunkM (.int 0) (.int 2)).all okName = true := by decide +kernel
theorem nm03 : (chunkM (.int 0) (.int (-1))).all okName = true := by decide +kernel
theorem nm04 : (chunkM (.int 0) (.int 14)).all okName = true := by decide +kernel
theorem nm10 : (chunkM (.int 1) (.int 0)).all okName = true := by decide +kernel
theorem nm11 : (chunkM (.int 1) (.int 1)).all okName = true := by decide +kernel
theorem nm12 : (chunkM (.int 1) (.int 2)).all okName = true := by decide +kernel
theorem nm13 : (chunkM (.int 1) (.int (-1))).all okName = true := by decide +kernel
theorem nm14 : (chunkM (.int 1) (.int 14)).all okName = true := by decide +kernel
theorem nm20 : (chunkM (.int 2) (.int 0)).all okName = true := by decide +kernel
theorem nm21 : (chunkM (.int 2) (.int 1)).all okName = true := by decide +kernel
theorem nm22 : (chunkM (.int 2) (.int 2)).all okName = true := by decide +kernel
theorem nm23 : (chunkM (.int 2) (.int (-1))).all okName = true := by decide +kernel
theorem nm24 : (chunkM (.int 2) (.int 14)).all okName = true := by decide +kernel
theorem nm30 : (chunkM (.int 7) (.int 0)).all okName = true := by decide +kernel
theorem nm31 : (chunkM (.int 7) (.int 1)).all okName = true := by decide +kernel
theorem nm32 : (chunkM (.int 7) (.int 2)).all okName = true := by decide +kernel
theorem nm33 : (chunkM (.int 7) (.int (-1))).all okName = true := by decide +kernel
theorem nm34 : (chunkM (.int 7) (.int 14)).all okName = true := by decide +kernel
theorem names_ok {d : PyData} (h : d ∈ namesM) : okName d = true := by
  unfold namesM at h
  simp only [List.mem_flatMap] at h
  obtain ⟨t, h1, p, h2, h3⟩ := h
  have h3' : d ∈ chunkM t p := by
    unfold chunkM
    simp only [List.mem_flatMap]
    exact h3
  unfold tasksM at h1
  unfold placesM at h2
  simp only [List.mem_cons, List.not_mem_nil, or_false] at h1 h2
  rcases h1 with rfl | rfl | rfl | rfl
  · rcases h2 with rfl | rfl | rfl | rfl | rfl
    · exact List.all_eq_true.mp nm00 d h3'
    · exact List.all_eq_true.mp nm01 d h3'
    · exact List.all_eq_true.mp nm02 d h3'
    · exact List.all_eq_true.mp nm03 d h3'
    · exact List.all_eq_true.mp nm04 d h3'
  · rcases h2 with rfl | rfl | rfl | rfl | rfl
    · exact List.all_eq_true.mp nm10 d h3'
    · exact List.all_eq_true.mp nm11 d h3'
    · exact List.all_eq_true.mp nm12 d h3'
    · exact List.all_eq_true.mp nm13 d h3'
    · exact List.all_eq_true.mp nm14 d h3'
  · rcases h2 with rfl | rfl | rfl | rfl | rfl
    · exact List.all_eq_true.mp nm20 d h3'
    · exact List.all_eq_true.mp nm21 d h3'
    · exact List.all_eq_true.mp nm22 d h3'
    · exact List.all_eq_true.mp nm23 d h3'
    · exact List.all_eq_true.mp nm24 d h3'
  · rcases h2 with rfl | rfl | rfl | rfl | rfl
    · exact List.all_eq_true.mp nm30 d h3'
    · exact List.all_eq_true.mp nm31 d h3'
    · exact List.all_eq_true.mp nm32 d h3'
    · exact List.all_eq_true.mp nm33 d h3'
    · exact List.all_eq_true.mp nm34 d h3'
theorem nums_ok {d : PyData} (h : d ∈ numsM) : okNum d = true := List.all_eq_true.mp num0 d h
end K73

set_option maxHeartbeats 2000000
namespace K73
open PySem PySem.Spec PyProof.Rows L2 Pd
/-- so many draws may still be made -/
structure Bud (n : Nat) (s : Dk) : Prop where
  lo : 0 ≤ s.drawn
  hi : s.drawn + n ≤ 1000000000000
  cl : s.cells.length ≤ 63
theorem Bud.le {n m : Nat} {s : Dk} (h : Bud n s) (q : m ≤ n) : Bud m s := ⟨h.lo, by have := h.hi; omega, h.cl⟩
theorem ifs {k : Bool} {A B : Prop} (h1 : k = true → A) (h2 : k = false → B) : if k then A else B := by
  cases k with
  | true => exact h1 rfl
  | false => exact h2 rfl
theorem mul_ok {i j : Int} (h : j.natAbs < 2 ^ 64) : fMul (.int i) (.int j) = some (.int (i * j)) := by
  unfold fMul fIc
  simp [h]
theorem mul_ok' {i j : Int} (h : i.natAbs < 2 ^ 64) : fMul (.int i) (.int j) = some (.int (i * j)) := by
  unfold fMul fIc
  simp [h]
theorem mod_ok {i j : Int} (h : j ≠ 0) : fMod (.int i) (.int j) = some (.int (i.fmod j)) := by
  unfold fMod fIc
  simp [h]
theorem div_ok {i j : Int} (h : j ≠ 0) (h2 : j.natAbs < 1073741824) : fDiv (.int i) (.int j) = some (.int (i.fdiv j)) := by
  unfold fDiv fIc
  simp [h, h2]
theorem add_ok {i j : Int} : fAdd (.int i) (.int j) = some (.int (i + j)) := rfl
theorem e2_ok {f : PyData → PyData → Option PyData} {a b : E1} {ρ : Sl} {x y d : PyData} (ha : a ρ = some x) (hb : b ρ = some y) (h : f x y = some d) : rE2 f a b ρ = some d := by
  unfold rE2
  rw [ha]
  show (b ρ).bind _ = _
  rw [hb]
  exact h
theorem draw_ok {n : Nat} {k : Int} {s : Dk} {W : PyData → Dk → Prop} (hb : Bud (n + 1) s) (h1 : 0 < k) (h2 : k < 1000) (hW : ∀ r s', 0 ≤ r → r < k → Bud n s' → W (.int r) s') : m__law_draw [.int k] s W := by
  have hk : k ≠ 0 := by omega
  have hlo := hb.lo
  have hhi := hb.hi
  refine ⟨.int 1, rfl, .int (s.drawn + 1), rfl, _, _, rfl, .int (s.drawn + 1), rfl, s.drawn + 1, rfl, ?_⟩
  -- the numbers behind the cells
  have rest : ∀ (m : Int) (c : Option Cell) (s1 : Dk), Bud n s1 →
      nSeq (nAsg (gN 2) (nL (rE2 fMod (rE2 fMul (rE2 fAdd (rE2 fAdd (rE2 fMod (rVar 2) (rC (.int 2147483629))) (rE2 fMul (rE2 fMul (rC (.int 92821)) (rVar 3)) (rVar 3))) (rC (.int 73))) (rC (.int 39373))) (rC (.int 2147483647))))) (nSeq (nAsg (gN 2) (nL (rE2 fMod (rE2 fAdd (rE2 fAdd (rE2 fMul (rVar 2) (rVar 2)) (rE2 fMul (rC (.int 69621)) (rVar 3))) (rC (.int 7))) (rC (.int 2147483563))))) (nRet (nL (rE2 fMod (rE2 fDiv (rE2 fMod (rE2 fMul (rVar 2) (rC (.int 40692))) (rC (.int 2147483587))) (rC (.int 64))) (rVar 1)))))
      [none, some (.vl (.int k)), some (.vl (.int m)), some (.vl (.int (s.drawn + 1))), c] s1 (fun fl s' => match fl with
        | .rt d => W d s'
        | .nx _ => W .none s'
        | _ => False) := by
    intro m c s1 hs1
    refine ⟨_, e2_ok (e2_ok (e2_ok (e2_ok (e2_ok rfl rfl (mod_ok (by decide))) (e2_ok (e2_ok rfl rfl (mul_ok' (by decide))) rfl (mul_ok (by omega))) rfl) rfl rfl) rfl (mul_ok (by decide))) rfl (mod_ok (by decide)), _, rfl, ?_⟩
    generalize hA : Int.fmod ((Int.fmod m 2147483629 + 92821 * (s.drawn + 1) * (s.drawn + 1) + 73) * 39373) 2147483647 = A
    have a0 : 0 ≤ A ∧ A < 2147483647 := by
      rw [← hA]
      exact ⟨Int.fmod_nonneg_of_pos _ (by decide), Int.fmod_lt_of_pos _ (by decide)⟩
    refine ⟨_, e2_ok (e2_ok (e2_ok (e2_ok rfl rfl (mul_ok (by omega))) (e2_ok rfl rfl (mul_ok' (by decide))) rfl) rfl rfl) rfl (mod_ok (by decide)), _, rfl, ?_⟩
    refine ⟨_, e2_ok (e2_ok (e2_ok (e2_ok rfl rfl (mul_ok (by decide))) rfl (mod_ok (by decide))) rfl (div_ok (by decide) (by decide))) rfl (mod_ok hk), ?_⟩
    exact hW _ _ (Int.fmod_nonneg_of_pos _ h1) (Int.fmod_lt_of_pos _ h1) hs1
  refine ifs (fun hc => ?_) (fun hc => ?_)
  · have hne : s.cells ≠ [] := fun z => by rw [z] at hc; cases hc
    have hl : s.cells.length - 1 < s.cells.length := by
      have := List.length_pos_iff.mpr hne
      omega
    refine ⟨s.cells[s.cells.length - 1], List.getElem?_eq_getElem hl, ?_⟩
    generalize s.cells[s.cells.length - 1] = c
    have hcl : s.cells.dropLast.length < 63 := by
      have := hb.cl
      rw [List.length_dropLast]
      omega
    refine ⟨_, rfl, ifs (fun hq => ?_) (fun hq => ?_)⟩
    · have hm : rA fMax2 (aCons (rC (.int 2)) (aCons (rVar 1) aNil)) [none, some (.vl (.int k)), some (.vl (.int s.blend)), some (.vl (.int (s.drawn + 1))), some (.vl (.int c))] = some (.int (if 2 < k then k else 2)) := rfl
      refine ⟨_, e2_ok rfl hm (div_ok (by split <;> omega) (by split <;> omega)), _, rfl, hcl, _, e2_ok rfl rfl (mod_ok hk), ?_⟩
      refine hW _ _ (Int.fmod_nonneg_of_pos _ h1) (Int.fmod_lt_of_pos _ h1) ⟨?_, ?_, ?_⟩
      · show 0 ≤ s.drawn + 1
        omega
      · show s.drawn + 1 + n ≤ _
        omega
      · show (s.cells.dropLast ++ [_]).length ≤ 63
        rw [List.length_append]
        exact hcl
    · refine ⟨_, e2_ok rfl rfl rfl, _, rfl, ?_⟩
      exact rest _ _ _ ⟨by show 0 ≤ s.drawn + 1; omega, by show s.drawn + 1 + n ≤ _; omega, Nat.le_of_lt hcl⟩
  · exact rest _ _ _ ⟨by show 0 ≤ s.drawn + 1; omega, by show s.drawn + 1 + n ≤ _; omega, hb.cl⟩
end K73

set_option maxHeartbeats 2000000
namespace K73
open PySem PySem.Spec PyProof.Rows L2 Pd
theorem atI_ok {ds : List PyData} {r : Int} (h0 : 0 ≤ r) (h1 : r < ds.length) : ∃ d ∈ ds, atI ds r = some d := by
  have hl : r.toNat < ds.length := by omega
  have z : atI ds ((r.toNat : Nat) : Int) = some ds[r.toNat] := atI_nat (List.getElem?_eq_getElem hl)
  exact ⟨ds[r.toNat], List.getElem_mem hl, by rw [← z, Int.toNat_of_nonneg h0]⟩
theorem pick_l {n : Nat} {ds : List PyData} {s : Dk} {W : PyData → Dk → Prop} (hb : Bud (n + 1) s) (h1 : 0 < ds.length) (h2 : ds.length < 1000) (hW : ∀ d s', d ∈ ds → Bud n s' → W d s') : m__law_pick [.list ds] s W := by
  refine ⟨.list ds, rfl, [.int ds.length], rfl, rfl, draw_ok hb (by omega) (by omega) fun r s' h0 hr hb' => ?_⟩
  obtain ⟨d, hd, e⟩ := atI_ok h0 hr
  exact ⟨d, by show (atI ds r).or _ = _; rw [e]; rfl, hW d s' hd hb'⟩
theorem pick_t {n : Nat} {ds : List PyData} {s : Dk} {W : PyData → Dk → Prop} (hb : Bud (n + 1) s) (h1 : 0 < ds.length) (h2 : ds.length < 1000) (hW : ∀ d s', d ∈ ds → Bud n s' → W d s') : m__law_pick [.tuple ds] s W := by
  refine ⟨.tuple ds, rfl, [.int ds.length], rfl, rfl, draw_ok hb (by omega) (by omega) fun r s' h0 hr hb' => ?_⟩
  obtain ⟨d, hd, e⟩ := atI_ok h0 hr
  exact ⟨d, by show (none : Option PyData).or ((atI ds r).or _) = _; rw [e]; rfl, hW d s' hd hb'⟩
def eqOs (o : Option (List PyData)) (d : List PyData) : Bool := match o with
  | some x => eqDs x d
  | none => false
theorem eqOs_ok {o : Option (List PyData)} {d : List PyData} (h : eqOs o d = true) : o = some d := by
  unfold eqOs at h
  cases o with
  | none => cases h
  | some x => rw [eqDs_ok x d h]
theorem number_ok {n : Nat} {s : Dk} {W : PyData → Dk → Prop} (hb : Bud (n + 1) s) (hW : ∀ d s', d ∈ numsM → Bud n s' → W d s') : m__law_number [] s W :=
  ⟨[.list numsM], eqOs_ok (by decide +kernel), rfl, pick_l hb (by decide) (by decide) hW⟩
def rounds6 : List PyData := [.tuple [], .tuple [], .tuple [], .tuple [.int 0], .tuple [.int 3, .int 1], .tuple [.int 12]]
theorem mem_names {t p r k : PyData} (h1 : t ∈ tasksM) (h2 : p ∈ placesM) (h3 : r ∈ rounds6) (h4 : k ∈ kindsM) : PyData.tuple [t, p, r, k] ∈ namesM := by
  have h3' : r ∈ roundsM := by
    unfold rounds6 at h3
    unfold roundsM
    simp only [List.mem_cons, List.not_mem_nil, or_false] at h3 ⊢
    rcases h3 with h | h | h | h | h | h <;> simp [h]
  unfold namesM
  simp only [List.mem_flatMap, List.mem_map]
  exact ⟨t, h1, p, h2, r, h3', k, h4, rfl⟩
theorem name_ok {n : Nat} {s : Dk} {W : PyData → Dk → Prop} (hb : Bud (n + 4) s) (hW : ∀ d s', d ∈ namesM → Bud n s' → W d s') : m__law_name [] s W := by
  refine ⟨[.list rounds6], eqOs_ok (by decide +kernel), rfl, pick_l hb (by decide) (by decide) fun r s1 hr hb1 => ⟨_, rfl, ?_⟩⟩
  refine ⟨[.list tasksM], rfl, rfl, pick_l hb1 (by decide) (by decide) fun t s2 ht hb2 => ?_⟩
  refine ⟨[.list placesM], rfl, rfl, pick_l hb2 (by decide) (by decide) fun p s3 hp hb3 => ?_⟩
  refine ⟨_, rfl, [.list kindsM], rfl, rfl, pick_l hb3 (by decide) (by decide) fun k s4 hk hb4 => ?_⟩
  exact ⟨_, rfl, hW _ s4 (mem_names ht hp hr hk) hb4⟩
end K73

set_option maxHeartbeats 2000000
namespace K73
open PySem PySem.Spec PyProof.Rows L2 Pd
/-- an expression that is drawn: a number, a variable, a pair with its sign -/
inductive Ex where
  | num (i : Int)
  | var (x : Str)
  | pair (o : Nat) (a b : Ex)
def opW : Nat → Str
  | 0 => "plus"
  | 1 => "minus"
  | _ => "times"
def Ex.data : Ex → PyData
  | .num i => .int i
  | .var x => .tuple [.str "variable", .str x]
  | .pair o a b => .tuple [.str (opW o), a.data, b.data]
def constsE : List Int := [0, 1, 4, -2, 1000000, -1000000, 2, -3]
def varsM : List Str := ["a", "b", "ab", "x"]
def EOk (vars : List Str) : Nat → Ex → Prop
  | 0, _ => False
  | _ + 1, .num i => i ∈ constsE
  | _ + 1, .var x => x ∈ vars
  | n + 1, .pair o a b => o < 3 ∧ (o = 2 → ∃ i, a = .num i) ∧ EOk vars n a ∧ EOk vars n b
theorem tOr_ok {a b : T1} {ρ : Sl} {x y : Bool} (ha : a ρ = some x) (hb : b ρ = some y) : tOrD a b ρ = some (x || y) := by
  unfold tOrD
  rw [ha]
  cases x with
  | true => rfl
  | false => exact hb
theorem tAnd_ok {a b : T1} {ρ : Sl} {x y : Bool} (ha : a ρ = some x) (hb : b ρ = some y) : tAndD a b ρ = some (x && y) := by
  unfold tAndD
  rw [ha]
  cases x with
  | false => rfl
  | true => exact hb
theorem tNot_ok {a : T1} {ρ : Sl} {x : Bool} (ha : a ρ = some x) : tNotD a ρ = some (!x) := by
  unfold tNotD
  rw [ha]
  rfl
def cE : Nat → Nat
  | 0 => 0
  | d + 1 => 2 + 2 * cE d
def expM1 : List PyData := [.int 0, .int 1, .int 4, .int (-2), .int 1000000, .int (-1000000)]
def expM2 : List PyData := [.int 0, .int 1, .int 2, .int (-3), .int 1000000]
theorem expM1_ok {d : PyData} (h : d ∈ expM1) : ∃ i ∈ constsE, d = .int i := by
  unfold expM1 at h
  unfold constsE
  simp only [List.mem_cons, List.not_mem_nil, or_false] at h ⊢
  rcases h with h | h | h | h | h | h <;> exact ⟨_, by simp, h⟩
theorem expM2_ok {d : PyData} (h : d ∈ expM2) : ∃ i ∈ constsE, d = .int i := by
  unfold expM2 at h
  unfold constsE
  simp only [List.mem_cons, List.not_mem_nil, or_false] at h ⊢
  rcases h with h | h | h | h | h <;> exact ⟨_, by simp, h⟩
theorem lift_ok {S : Type} {r : E1} {ρ : Sl} {s : S} {W : PyData → S → Prop} {d : PyData} (h : r ρ = some d) (hw : W d s) : nL r ρ s W := ⟨d, h, hw⟩
theorem dec_t {p : Prop} [Decidable p] (h : decide p = true) : p := of_decide_eq_true h
theorem expr_ok {vars : List Str} : ∀ (fuel d n : Nat) {s : Dk} {W : PyData → Dk → Prop}, vars.length < 1000 → SeqAt.shaped (.tuple (vars.map PyData.str)) = true → d + 1 ≤ fuel → Bud (n + cE (d + 1)) s → (∀ e s', EOk vars (d + 1) e → Bud n s' → W e.data s') →
    m__law_expression fuel [.tuple (vars.map .str), .int (((d + 1 : Nat) : Int))] s W
  | 0, _, _, _, _, _, _, h, _, _ => by omega
  | fuel + 1, d, n, s, W, hv, hsh, hf, hb, hW => by
    have hc : n + cE (d + 1) = (n + 1 + 2 * cE d) + 1 := by
      show n + (2 + 2 * cE d) = _
      omega
    rw [hc] at hb
    refine ⟨[.int 6], rfl, rfl, draw_ok hb (by decide) (by decide) fun way s1 w0 w6 hb1 => ⟨_, rfl, ?_⟩⟩
    have t1 : tOrD (tVal (rE2 fEq (rVar 2) (rC (.int 1)))) (tVal (rE2 fLt (rVar 3) (rC (.int 3)))) [none, some (.vl (.tuple (vars.map .str))), some (.vl (.int ((d + 1 : Nat) : Int))), some (.vl (.int way)), none] = some (decide (((d + 1 : Nat) : Int) = 1) || decide (way < 3)) := tOr_ok rfl rfl
    refine ⟨_, t1, ifs (fun hq => ?_) (fun hq => ?_)⟩
    · -- a leaf
      have t2 : tAndD (tVal (rE2 fNe (rVar 1) (rA mkTup aNil))) (tVal (rE2 fNe (rVar 3) (rC (.int 1)))) [none, some (.vl (.tuple (vars.map .str))), some (.vl (.int ((d + 1 : Nat) : Int))), some (.vl (.int way)), none] = some (!vars.isEmpty && !decide (way = 1)) := by
        refine tAnd_ok ?_ rfl
        cases vars with
        | nil => rfl
        | cons v vs =>
          have hs : SeqAt.shaped (.tuple ((v :: vs).map .str)) = true := hsh
          show tVal (rE2 fNe _ _) _ = some true
          unfold tVal
          rw [e2_ok (a := rVar 1) (b := rA mkTup aNil) (f := fNe) (d := .bool true) rfl rfl (by show (if _ then _ else _) = _; rw [hs]; rfl)]
          rfl
      refine ⟨_, t2, ifs (fun hl => ?_) (fun hl => ?_)⟩
      · have hne : vars ≠ [] := by
          intro z
          rw [z] at hl
          cases hl
        refine ⟨.str "variable", rfl, [.tuple (vars.map .str)], rfl, rfl, pick_t (n := n + 2 * cE d) (by rw [show n + 2 * cE d + 1 = n + 1 + 2 * cE d by omega]; exact hb1) (by rw [List.length_map]; exact List.length_pos_iff.mpr hne) (by rw [List.length_map]; exact hv) fun x s2 hx hb2 => ?_⟩
        obtain ⟨y, hy, rfl⟩ := List.mem_map.mp hx
        exact ⟨_, rfl, hW (.var y) s2 hy (hb2.le (by omega))⟩
      · refine ⟨[.list expM1], rfl, rfl, pick_l (n := n + 2 * cE d) (by rw [show n + 2 * cE d + 1 = n + 1 + 2 * cE d by omega]; exact hb1) (by decide) (by decide) fun x s2 hx hb2 => ?_⟩
        obtain ⟨i, hi, rfl⟩ := expM1_ok hx
        exact hW (.num i) s2 hi (hb2.le (by omega))
    · -- a pair
      rw [Bool.or_eq_false_iff] at hq
      have hd : d ≠ 0 := fun z => by subst z; exact absurd hq.1 (by decide)
      obtain ⟨d, rfl⟩ : ∃ d', d = d' + 1 := ⟨d - 1, by omega⟩
      have hsub : ∀ (ρ : Sl), ρ[1]? = some (some (.vl (.tuple (vars.map .str)))) → ρ[2]? = some (some (.vl (.int (((d + 1 + 1 : Nat) : Nat) : Int)))) → aCons (rVar 1) (aCons (rE2 fSub (rVar 2) (rC (.int 1))) aNil) ρ = some [.tuple (vars.map .str), .int ((d + 1 : Nat) : Int)] := fun ρ h1 h2 => by
        have v1 : rVar 1 ρ = some (.tuple (vars.map .str)) := by unfold rVar; rw [h1]
        have v2 : rVar 2 ρ = some (.int (((d + 1 + 1 : Nat) : Nat) : Int)) := by unfold rVar; rw [h2]
        have v3 : rE2 fSub (rVar 2) (rC (.int 1)) ρ = some (.int ((d + 1 : Nat) : Int)) := by
          rw [e2_ok v2 rfl (f := fSub) (d := .int ((((d + 1 + 1 : Nat) : Nat) : Int) - 1)) rfl]
          congr 2
          omega
        unfold aCons
        rw [v1]
        show ((rE2 fSub (rVar 2) (rC (.int 1)) ρ).bind _ ).map _ = _
        rw [v3]
        rfl
      have hl : d + 1 ≤ fuel := by omega
      refine ⟨_, rfl, ifs (fun h3 => ?_) (fun h3 => ?_)⟩
      · -- times
        refine ⟨.str "times", rfl, [.list expM2], rfl, rfl, pick_l (n := n + 2 * cE (d + 1)) (by rw [show n + 2 * cE (d + 1) + 1 = n + 1 + 2 * cE (d + 1) by omega]; exact hb1) (by decide) (by decide) fun x s2 hx hb2 => ?_⟩
        obtain ⟨i, hi, rfl⟩ := expM2_ok hx
        refine ⟨_, hsub _ rfl rfl, rfl, expr_ok fuel d (n + cE (d + 1)) hv hsh hl (by rw [show n + cE (d + 1) + cE (d + 1) = n + 2 * cE (d + 1) by omega]; exact hb2) fun e s3 he hb3 => ?_⟩
        exact ⟨_, rfl, hW (.pair 2 (.num i) e) s3 ⟨by decide, fun _ => ⟨i, rfl⟩, hi, he⟩ (hb3.le (by omega))⟩
      · refine ⟨[.list [.str "plus", .str "minus"]], rfl, rfl, pick_l (n := n + 2 * cE (d + 1)) (by rw [show n + 2 * cE (d + 1) + 1 = n + 1 + 2 * cE (d + 1) by omega]; exact hb1) (by decide) (by decide) fun x s2 hx hb2 => ⟨_, rfl, ?_⟩⟩
        obtain ⟨o, ho, ho2, rfl⟩ : ∃ o, o < 3 ∧ o ≠ 2 ∧ x = .str (opW o) := by
          simp only [List.mem_cons, List.not_mem_nil, or_false] at hx
          rcases hx with h | h
          · exact ⟨0, by decide, by decide, h⟩
          · exact ⟨1, by decide, by decide, h⟩
        refine ⟨.str (opW o), rfl, _, hsub _ rfl rfl, rfl, expr_ok fuel d (n + cE (d + 1)) hv hsh hl (by rw [show n + cE (d + 1) + cE (d + 1) = n + 2 * cE (d + 1) by omega]; exact hb2) fun e1 s3 he1 hb3 => ?_⟩
        refine ⟨_, hsub _ rfl rfl, rfl, expr_ok fuel d n hv hsh hl hb3 fun e2 s4 he2 hb4 => ?_⟩
        exact ⟨_, rfl, hW (.pair o e1 e2) s4 ⟨ho, fun z => absurd z ho2, he1, he2⟩ hb4⟩
end K73

set_option maxHeartbeats 2000000
namespace K73
open PySem PySem.Spec PyProof.Rows L2 Pd
mutual
/-- no dict, no long list -/
def smallD : PyData → Bool
  | .dict _ => false
  | .list xs => Nat.ble xs.length 1000 && smallAll xs
  | .tuple xs => Nat.ble xs.length 1000 && smallAll xs
  | .none => true
  | .bool _ => true
  | .int _ => true
  | .str _ => true
def smallAll : List PyData → Bool
  | [] => true
  | x :: xs => smallD x && smallAll xs
end
/-- data that can be compared and shown -/
structure Nice (k L : Nat) (d : PyData) : Prop where
  sm : smallD d = true
  sh : d.showable = true
  cl : d.canLay0 = true
  dp : d.depth ≤ k
  ln : d.shown.length ≤ L
theorem Nice.le {k L k' L' : Nat} {d : PyData} (h : Nice k L d) (a : k ≤ k') (b : L ≤ L') : Nice k' L' d := ⟨h.sm, h.sh, h.cl, Nat.le_trans h.dp a, Nat.le_trans h.ln b⟩
def niceB (k L : Nat) (d : PyData) : Bool := smallD d && (d.showable && (d.canLay0 && (Nat.ble d.depth k && Nat.ble d.shown.length L)))
theorem niceB_ok {k L : Nat} {d : PyData} (h : niceB k L d = true) : Nice k L d := by
  unfold niceB at h
  simp only [Bool.and_eq_true] at h
  exact ⟨h.1, h.2.1, h.2.2.1, Nat.le_of_ble_eq_true h.2.2.2.1, Nat.le_of_ble_eq_true h.2.2.2.2⟩
theorem nice_all {k L : Nat} : ∀ {ds : List PyData}, (∀ d ∈ ds, Nice k L d) → PyData.showableAll ds = true ∧ PyData.canLayAll0 ds = true ∧ PyData.depthAll ds ≤ k ∧ ∀ t ∈ PyData.shownAll ds, t.length ≤ L
  | [], _ => ⟨by simp [PyData.showableAll], by simp [PyData.canLayAll0], by simp [PyData.depthAll], by simp [PyData.shownAll]⟩
  | d :: ds, h => by
    obtain ⟨h1, h2, h3, h4⟩ := nice_all (ds := ds) fun x hx => h x (List.mem_cons_of_mem _ hx)
    have z := h d (List.mem_cons_self ..)
    refine ⟨by simp [PyData.showableAll, z.sh, h1], by simp [PyData.canLayAll0, z.cl, h2], ?_, fun t ht => ?_⟩
    · simp only [PyData.depthAll]
      exact Nat.max_le.mpr ⟨z.dp, h3⟩
    · simp only [PyData.shownAll, List.mem_cons] at ht
      rcases ht with rfl | ht
      · exact z.ln
      · exact h4 t ht
theorem small_all : ∀ {ds : List PyData}, (∀ d ∈ ds, smallD d = true) → smallAll ds = true
  | [], _ => by simp [smallAll]
  | d :: ds, h => by
    simp only [smallAll, h d (List.mem_cons_self ..), small_all fun x hx => h x (List.mem_cons_of_mem _ hx), Bool.and_self]
theorem shownAll_len : ∀ ds : List PyData, (PyData.shownAll ds).length = ds.length
  | [] => by simp [PyData.shownAll]
  | d :: ds => by simp [PyData.shownAll, shownAll_len ds]
theorem len_app (x y : Str) : (x ++ y).length = x.length + y.length := by
  rw [TL.len_tl, TL.tl_append, List.length_append, ← TL.len_tl, ← TL.len_tl]
theorem join_len {L : Nat} (y : Str) : ∀ ts : List Str, (∀ t ∈ ts, t.length ≤ L) → (Str.join y ts).length ≤ ts.length * (L + y.length)
  | [], _ => Nat.zero_le _
  | [t], h => by
    have := h t (List.mem_cons_self ..)
    show t.length ≤ 1 * _
    omega
  | t :: u :: r, h => by
    have h1 := h t (List.mem_cons_self ..)
    have ih := join_len y (u :: r) fun z hz => h z (List.mem_cons_of_mem _ hz)
    show (t ++ y ++ Str.join y (u :: r)).length ≤ ((u :: r).length + 1) * _
    rw [len_app, len_app, Nat.add_mul]
    omega
theorem nice_tup {k L : Nat} {ds : List PyData} (h : ∀ d ∈ ds, Nice k L d) (hl : ds.length ≤ 1000 := by exact Nat.le_of_ble_eq_true rfl) : Nice (k + 1) (ds.length * (L + 2) + 3) (.tuple ds) := by
  obtain ⟨h1, h2, h3, h4⟩ := nice_all h
  refine ⟨by simp only [smallD, Nat.ble_eq_true_of_le hl, small_all fun d hd => (h d hd).sm, Bool.and_self], by simp [PyData.showable, h1], by simp [PyData.canLay0, h2], by simp only [PyData.depth]; omega, ?_⟩
  simp only [PyData.shown]
  unfold tupleText
  have j := join_len ", " (PyData.shownAll ds) h4
  rw [shownAll_len] at j
  have e2 : ((", " : String) : Str).length = 2 := rfl
  rw [e2] at j
  rw [len_app, len_app]
  have e1 : (("(" : String) : Str).length = 1 := rfl
  rw [e1]
  have e3 : ((if ((PyData.shownAll ds).length == 1) = true then ",)" else ")" : String) : Str).length ≤ 2 := by
    split
    · exact Nat.le_refl 2
    · show 1 ≤ 2
      decide
  omega
theorem nice_lst {k L : Nat} {ds : List PyData} (h : ∀ d ∈ ds, Nice k L d) : PyData.canLay0 (.list ds) = true ∧ PyData.depth (.list ds) ≤ k + 1 := by
  obtain ⟨_, h2, h3, _⟩ := nice_all h
  exact ⟨by simp [PyData.canLay0, h2], by simp only [PyData.depth]; omega⟩
theorem shaped_of {d : PyData} (h1 : d.canLay0 = true) (h2 : d.depth ≤ 50) : SeqAt.shaped d = true := by
  unfold SeqAt.shaped
  simp only [h1, Bool.true_and, decide_eq_true_eq]
  omega
theorem Nice.shaped {k L : Nat} {d : PyData} (h : Nice k L d) (hk : k ≤ 50) : SeqAt.shaped d = true := shaped_of h.cl (Nat.le_trans h.dp hk)
theorem repr_ok {k L : Nat} {ds : List PyData} (h : Nice k L (.tuple ds)) (hk : k ≤ 60) (hL : L ≤ 16777216) : fRepr (.tuple ds) = some (.str (PyData.tuple ds).shown) := by
  unfold fRepr
  have h1 := PyData.hasDict_of_canLay _ h.cl
  have h2 : decide ((PyData.tuple ds).depth ≤ 60) = true := decide_eq_true (Nat.le_trans h.dp hk)
  have h3 : decide ((PyData.tuple ds).shown.length ≤ 16777216) = true := decide_eq_true (Nat.le_trans h.ln hL)
  show (if ((PyData.tuple ds).showable && (!(PyData.tuple ds).hasDict && (decide ((PyData.tuple ds).depth ≤ 60) && decide ((PyData.tuple ds).shown.length ≤ 16777216)))) = true then _ else _) = _
  rw [h.sh, h1, h2, h3]
  rfl
/-! ### leaves -/
theorem nums_nice0 : numsM.all (niceB 1 40) = true := by decide +kernel
theorem nums_nice {d : PyData} (h : d ∈ numsM) : Nice 1 40 d := niceB_ok (List.all_eq_true.mp nums_nice0 d h)
theorem names_of {d : PyData} (h : d ∈ namesM) : ∃ t ∈ tasksM, ∃ p ∈ placesM, ∃ r ∈ roundsM, ∃ k ∈ kindsM, d = .tuple [t, p, r, k] := by
  unfold namesM at h
  simp only [List.mem_flatMap, List.mem_map] at h
  obtain ⟨t, h1, p, h2, r, h3, k, h4, e⟩ := h
  exact ⟨t, h1, p, h2, r, h3, k, h4, e.symm⟩
theorem tasks_nice0 : tasksM.all (niceB 1 15) = true := by decide +kernel
theorem places_nice0 : placesM.all (niceB 1 15) = true := by decide +kernel
theorem rounds_nice0 : roundsM.all (niceB 1 15) = true := by decide +kernel
theorem kinds_nice0 : kindsM.all (niceB 1 15) = true := by decide +kernel
theorem names_nice {d : PyData} (h : d ∈ namesM) : Nice 2 80 d := by
  obtain ⟨t, h1, p, h2, r, h3, k, h4, rfl⟩ := names_of h
  have := nice_tup (k := 1) (L := 15) (ds := [t, p, r, k]) fun d hd => by
    simp only [List.mem_cons, List.not_mem_nil, or_false] at hd
    rcases hd with rfl | rfl | rfl | rfl
    · exact niceB_ok (List.all_eq_true.mp tasks_nice0 _ h1)
    · exact niceB_ok (List.all_eq_true.mp places_nice0 _ h2)
    · exact niceB_ok (List.all_eq_true.mp rounds_nice0 _ h3)
    · exact niceB_ok (List.all_eq_true.mp kinds_nice0 _ h4)
  exact this.le (Nat.le_refl _) (show 4 * (15 + 2) + 3 ≤ 80 by decide)
def LE : Nat → Nat
  | 0 => 40
  | n + 1 => 3 * (LE n + 2) + 3
theorem LE_up (n : Nat) : 40 ≤ LE n := by
  induction n with
  | zero => exact Nat.le_refl _
  | succ n ih =>
    show 40 ≤ 3 * (LE n + 2) + 3
    omega
theorem ops_nice (o : Nat) : Nice 0 40 (.str (opW o)) := by
  match o with
  | 0 => exact niceB_ok (by decide +kernel)
  | 1 => exact niceB_ok (by decide +kernel)
  | _ + 2 => exact niceB_ok (show niceB 0 40 (.str "times") = true by decide +kernel)
theorem consts_nice0 : (constsE.map PyData.int).all (niceB 0 40) = true := by decide +kernel
theorem vars_nice0 : (varsM.map PyData.str).all (niceB 0 30) = true := by decide +kernel
theorem ex_nice {vars : List Str} (hv : ∀ v ∈ vars, v ∈ varsM) : ∀ (n : Nat) (e : Ex), EOk vars n e → Nice n (LE n) e.data
  | 0, _, h => h.elim
  | n + 1, .num i, h => (niceB_ok (List.all_eq_true.mp consts_nice0 _ (List.mem_map_of_mem (f := PyData.int) h))).le (Nat.zero_le _) (LE_up _)
  | n + 1, .var x, h => by
    have hx := niceB_ok (List.all_eq_true.mp vars_nice0 _ (List.mem_map_of_mem (f := PyData.str) (hv x h)))
    have hw : Nice 0 30 (.str "variable") := niceB_ok (by decide +kernel)
    have := nice_tup (k := 0) (L := 30) (ds := [.str "variable", .str x]) fun d hd => by
      simp only [List.mem_cons, List.not_mem_nil, or_false] at hd
      rcases hd with rfl | rfl
      · exact hw
      · exact hx
    refine this.le (Nat.le_add_left 1 n) ?_
    show 2 * (30 + 2) + 3 ≤ 3 * (LE n + 2) + 3
    have := LE_up n
    omega
  | n + 1, .pair o a b, h => by
    obtain ⟨_, _, ha, hb⟩ := h
    have ea := ex_nice hv n a ha
    have eb := ex_nice hv n b hb
    have := nice_tup (k := n) (L := LE n) (ds := [.str (opW o), a.data, b.data]) fun d hd => by
      simp only [List.mem_cons, List.not_mem_nil, or_false] at hd
      rcases hd with rfl | rfl | rfl
      · exact (ops_nice o).le (Nat.zero_le _) (LE_up n)
      · exact ea
      · exact eb
    exact this
end K73

set_option maxHeartbeats 2000000
namespace K73
open PySem PySem.Spec PyProof.Rows L2 Pd
theorem forN_inv {S : Type} {g : TgD} {b : BN S} (Inv : Nat → Sl → S → Prop) (step : ∀ d n ρ s K, Inv (n + 1) ρ s → (∀ ρ' s', Inv n ρ' s' → K (.nx ρ') s') → ∃ l, g d = some l ∧ b (setD ρ l) s K) :
    ∀ (ds : List PyData) (ρ : Sl) (s : S) (W : Fl → S → Prop), Inv ds.length ρ s → (∀ ρ' s', Inv 0 ρ' s' → W (.nx ρ') s') → forN g b ds ρ s W
  | [], ρ, s, W, h, hw => hw ρ s h
  | d :: ds, ρ, s, W, h, hw => by
    obtain ⟨l, e, hb⟩ := step d ds.length ρ s (fun fl s1 => match fl with
      | .nx ρ' => forN g b ds ρ' s1 W
      | .ct ρ' => forN g b ds ρ' s1 W
      | .bk ρ' => W (.nx ρ') s1
      | .rt d => W (.rt d) s1) h fun ρ' s' h' => forN_inv Inv step ds ρ' s' W h' hw
    exact ⟨l, e, hb⟩
theorem lcN_inv {S : Type} {g : TgD} {e : EN S} {ρ : Sl} (P : PyData → Prop) (Inv : Nat → S → Prop) (step : ∀ d n s K, Inv (n + 1) s → (∀ x s', P x → Inv n s' → K x s') → ∃ l, g d = some l ∧ e (setD ρ l) s K) :
    ∀ (ds : List PyData) (s : S) (W : List PyData → S → Prop), Inv ds.length s → (∀ xs s', xs.length = ds.length → (∀ x ∈ xs, P x) → Inv 0 s' → W xs s') → lcN g e ρ ds s W
  | [], s, W, h, hw => hw [] s rfl (fun _ h => by cases h) h
  | d :: ds, s, W, h, hw => by
    obtain ⟨l, eg, he⟩ := step d ds.length s (fun x s1 => lcN g e ρ ds s1 fun xs s2 => W (x :: xs) s2) h fun x s' hx h' => lcN_inv P Inv step ds s' _ h' fun xs s2 hl hP h2 => hw (x :: xs) s2 (by simp [hl]) (fun y hy => by
      rcases List.mem_cons.mp hy with rfl | hy
      · exact hx
      · exact hP y hy) h2
    exact ⟨l, eg, he⟩
/-! ### programs -/
def varsMenu : List (List Str) := [[], ["a"], ["a", "b"], ["ab", "b", "x"], ["b"]]
def chansMenu : List (List Str) := [[], ["c"], ["c", "cc"], ["all", "ends"]]
def tupS (xs : List Str) : PyData := .tuple (xs.map .str)
structure PrG where
  vars : List Str
  chans : List Str
  cores : Int
  ts : List PyData
def PrG.data (p : PrG) : PyData := .tuple [tupS p.vars, .tuple [], .tuple [.int p.cores, .str "one", .bool false], .tuple [.tuple [], .tuple [], .tuple [], tupS p.chans], .tuple p.ts]
structure PrG.Ok (p : PrG) : Prop where
  v : p.vars ∈ varsMenu
  c : p.chans ∈ chansMenu
  k : p.cores = 1 ∨ p.cores = 2
  l1 : 1 ≤ p.ts.length
  l3 : p.ts.length ≤ 3
  t : ∀ t ∈ p.ts, Nice 4 2100 t
theorem vars_in {vs : List Str} (h : vs ∈ varsMenu) : ∀ v ∈ vs, v ∈ varsM := by
  have : ∀ vs ∈ varsMenu, ∀ v ∈ vs, v ∈ varsM := by decide +kernel
  exact this vs h
theorem vars_len {vs : List Str} (h : vs ∈ varsMenu) : vs.length ≤ 3 := by
  have : ∀ vs ∈ varsMenu, vs.length ≤ 3 := by decide +kernel
  exact this vs h
theorem chans_len {vs : List Str} (h : vs ∈ chansMenu) : vs.length ≤ 2 := by
  have : ∀ vs ∈ chansMenu, vs.length ≤ 2 := by decide +kernel
  exact this vs h
theorem tupS_nice0 : (varsMenu ++ chansMenu).all (fun vs => niceB 1 60 (tupS vs)) = true := by decide +kernel
theorem vars_nice {vs : List Str} (h : vs ∈ varsMenu) : Nice 1 60 (tupS vs) := niceB_ok (List.all_eq_true.mp tupS_nice0 vs (List.mem_append_left _ h))
theorem chans_nice {vs : List Str} (h : vs ∈ chansMenu) : Nice 1 60 (tupS vs) := niceB_ok (List.all_eq_true.mp tupS_nice0 vs (List.mem_append_right _ h))
theorem prog_nice {p : PrG} (h : p.Ok) : Nice 6 40000 p.data := by
  have t1 : Nice 5 6400 (.tuple p.ts) := (nice_tup h.t (by have := h.l3; omega)).le (Nat.le_refl _) (by have := h.l3; omega)
  have t2 : Nice 1 60 (.tuple [.int p.cores, .str "one", .bool false]) := by
    rcases h.k with e | e <;> rw [e] <;> exact niceB_ok (by decide +kernel)
  have t3 : Nice 2 300 (.tuple [.tuple [], .tuple [], .tuple [], tupS p.chans]) := by
    have e0 : Nice 1 60 (.tuple []) := niceB_ok (by decide +kernel)
    exact (nice_tup (k := 1) (L := 60) fun d hd => by
      simp only [List.mem_cons, List.not_mem_nil, or_false] at hd
      rcases hd with rfl | rfl | rfl | rfl
      · exact e0
      · exact e0
      · exact e0
      · exact chans_nice h.c).le (Nat.le_refl _) (show 4 * (60 + 2) + 3 ≤ 300 by decide)
  have t4 : Nice 1 60 (.tuple []) := niceB_ok (by decide +kernel)
  exact (nice_tup (k := 5) (L := 6400) (ds := [tupS p.vars, .tuple [], .tuple [.int p.cores, .str "one", .bool false], .tuple [.tuple [], .tuple [], .tuple [], tupS p.chans], .tuple p.ts]) fun d hd => by
    simp only [List.mem_cons, List.not_mem_nil, or_false] at hd
    rcases hd with rfl | rfl | rfl | rfl | rfl
    · exact (vars_nice h.v).le (by decide) (by decide)
    · exact t4.le (by decide) (by decide)
    · exact t2.le (by decide) (by decide)
    · exact t3.le (by decide) (by decide)
    · exact t1).le (Nat.le_refl _) (show 5 * (6400 + 2) + 3 ≤ 40000 by decide)
/-- what a task works at, what it emits -/
def worksOf (ns : List Int) (vs : List Str) : List PyData := ns.map .int ++ vs.map fun v => .tuple [.str "variable", .str v]
theorem works_nice {vs : List Str} (h : vs ∈ varsMenu) (n : Nat) : ∀ d ∈ worksOf [1, 2, 5] (vs.take n) ++ worksOf [0, 3, 7] (vs.take n), Nice 1 70 d := by
  have key : (varsM.map fun v => PyData.tuple [.str "variable", .str v]).all (niceB 1 70) = true := by decide +kernel
  have key2 : ([1, 2, 5, 0, 3, 7].map PyData.int).all (niceB 1 70) = true := by decide +kernel
  have hv : ∀ x ∈ vs.take n, Nice 1 70 (.tuple [.str "variable", .str x]) := fun x hx => niceB_ok (List.all_eq_true.mp key _ (List.mem_map_of_mem (f := fun v => PyData.tuple [.str "variable", .str v]) (vars_in h x (List.mem_of_mem_take hx))))
  have hi : ∀ i ∈ ([1, 2, 5, 0, 3, 7] : List Int), Nice 1 70 (.int i) := fun i hi => niceB_ok (List.all_eq_true.mp key2 _ (List.mem_map_of_mem (f := PyData.int) hi))
  intro d hd
  unfold worksOf at hd
  rcases List.mem_append.mp hd with hd | hd <;> rcases List.mem_append.mp hd with hd | hd <;> obtain ⟨x, hx, rfl⟩ := List.mem_map.mp hd
  · exact hi x (by simp only [List.mem_cons, List.not_mem_nil, or_false] at hx ⊢; rcases hx with h | h | h <;> simp [h])
  · exact hv x hx
  · exact hi x (by simp only [List.mem_cons, List.not_mem_nil, or_false] at hx ⊢; rcases hx with h | h | h <;> simp [h])
  · exact hv x hx
theorem work_ev {vs : List Str} (h : vs ∈ varsMenu) (x2 x3 x4 x5 x6 x7 : Option Cell) : aCons (rE2 fAdd (rA mkLst (aCons (rC (.int 1)) (aCons (rC (.int 2)) (aCons (rC (.int 5)) aNil)))) (rLc (aTup (rCut (rVar 1) oNone (oSome (rC (.int 2))))) (gN 7) tTrue (rA mkTup (aCons (rC (.str "variable")) (aCons (rVar 7) aNil))) [7])) aNil
    [none, some (.vl (tupS vs)), x2, x3, x4, x5, x6, x7] = some [.list (worksOf [1, 2, 5] (vs.take 2))] := by
  unfold varsMenu at h
  simp only [List.mem_cons, List.not_mem_nil, or_false] at h
  rcases h with rfl | rfl | rfl | rfl | rfl <;> rfl
theorem emit_ev {vs : List Str} (h : vs ∈ varsMenu) (x2 x3 x4 x5 x6 x7 : Option Cell) : aCons (rE2 fAdd (rA mkLst (aCons (rC (.int 0)) (aCons (rC (.int 3)) (aCons (rC (.int 7)) aNil)))) (rLc (aTup (rCut (rVar 1) oNone (oSome (rC (.int 1))))) (gN 7) tTrue (rA mkTup (aCons (rC (.str "variable")) (aCons (rVar 7) aNil))) [7])) aNil
    [none, some (.vl (tupS vs)), x2, x3, x4, x5, x6, x7] = some [.list (worksOf [0, 3, 7] (vs.take 1))] := by
  unfold varsMenu at h
  simp only [List.mem_cons, List.not_mem_nil, or_false] at h
  rcases h with rfl | rfl | rfl | rfl | rfl <;> rfl
theorem chan_ev {cs : List Str} (h : cs ∈ chansMenu) (x1 x3 x4 x5 x6 x7 : Option Cell) : tVal (rE2 fNe (rVar 2) (rA mkTup aNil)) [none, x1, some (.vl (tupS cs)), x3, x4, x5, x6, x7] = some (!cs.isEmpty) := by
  have key : ∀ cs ∈ chansMenu, isO (fNe (tupS cs) (.tuple [])) (.bool (!cs.isEmpty)) = true := by decide +kernel
  unfold tVal
  rw [e2_ok (a := rVar 2) (b := rA mkTup aNil) rfl rfl (isO_ok (key cs h))]
  rfl
theorem ix_t {ds : List PyData} {j : Nat} {d : PyData} (h : ds[j]? = some d) : fIx (.tuple ds) (.int (j : Int)) = some d := by
  show (none : Option PyData).or ((atI ds j).or _) = _
  rw [atI_nat h]
  rfl
theorem ix_l {ds : List PyData} {j : Nat} {d : PyData} (h : ds[j]? = some d) : fIx (.list ds) (.int (j : Int)) = some d := by
  show (atI ds j).or _ = _
  rw [atI_nat h]
  rfl
theorem works_len {ns : List Int} {vs : List Str} (h0 : ns.length = 3) (h : vs.length ≤ 3) : 0 < (worksOf ns vs).length ∧ (worksOf ns vs).length < 1000 := by
  unfold worksOf
  simp only [List.length_append, List.length_map]
  omega
theorem small_nice {r : Int} (h0 : 0 ≤ r) (h3 : r < 3) : Nice 0 40 (.int r) := by
  have : r = 0 ∨ r = 1 ∨ r = 2 := by omega
  rcases this with rfl | rfl | rfl <;> exact niceB_ok (by decide +kernel)
theorem program_ok {n : Nat} {s : Dk} {W : PyData → Dk → Prop} (hb : Bud (n + 20) s) (hW : ∀ (p : PrG) s', p.Ok → Bud n s' → W p.data s') : m__law_program [] s W := by
  refine ⟨[.list (varsMenu.map tupS)], rfl, rfl, pick_l (n := n + 19) hb (by decide) (by decide) fun dv s1 hv hb1 => ⟨_, rfl, ?_⟩⟩
  obtain ⟨vs, hvs, rfl⟩ := List.mem_map.mp hv
  refine ⟨[.list (chansMenu.map tupS)], rfl, rfl, pick_l (n := n + 18) hb1 (by decide) (by decide) fun dc s2 hc hb2 => ⟨_, rfl, ?_⟩⟩
  obtain ⟨cs, hcs, rfl⟩ := List.mem_map.mp hc
  refine ⟨.int 1, rfl, [.int 4], rfl, rfl, draw_ok (n := n + 17) hb2 (by decide) (by decide) fun r s3 _ _ hb3 => ⟨.int 0, rfl, .bool (decide (r = 0)), rfl, ?_⟩⟩
  generalize decide (r = 0) = b0
  obtain ⟨c, hc1, hc2⟩ : ∃ c : Int, fInt [.bool b0] = some (.int c) ∧ (1 + c = 1 ∨ 1 + c = 2) := by
    cases b0
    · exact ⟨0, rfl, .inl rfl⟩
    · exact ⟨1, rfl, .inr rfl⟩
  refine ⟨.int c, hc1, .int (1 + c), rfl, ?_⟩
  refine ⟨.int 1, rfl, [.int 3], rfl, rfl, draw_ok (n := n + 16) hb3 (by decide) (by decide) fun m s4 m0 m3 hb4 => ⟨.int (1 + m), rfl, 1 + m, rfl, by omega, by omega, ?_⟩⟩
  have hm3 : (1 + m).toNat ≤ 3 := by omega
  have hm1 : 1 ≤ (1 + m).toNat := by omega
  refine forN_inv (fun j ρ s => ∃ (x3 x6 x7 : Option Cell) (ts : List PyData), ρ = [none, some (.vl (tupS vs)), some (.vl (tupS cs)), x3, some (.vl (.int (1 + c))), some (.ow ts), x6, x7] ∧ ts.length + j = (1 + m).toNat ∧ (∀ t ∈ ts, Nice 4 2100 t) ∧ Bud (n + 4 * j) s) ?_ _ _ _ _ ?_ ?_
  · rintro d j ρ s K ⟨x3, x6, x7, ts, rfl, hl, hts, hbj⟩ hK
    refine ⟨[(3, d)], rfl, ?_⟩
    have hw := work_ev hvs (some (.vl (tupS cs))) (some (.vl d)) (some (.vl (.int (1 + c)))) (some (.ow ts)) x6 x7
    have hwl := works_len (ns := [1, 2, 5]) (vs := vs.take 2) rfl (by have := vars_len hvs; rw [List.length_take]; omega)
    have hb' : Bud (n + 4 * j + 3 + 1) s := hbj.le (by omega)
    refine ⟨.str "work", rfl, [.list (worksOf [1, 2, 5] (vs.take 2))], hw, rfl, pick_l hb' hwl.1 hwl.2 fun wk s5 hwk hb5 => ⟨.tuple [.str "work", wk], rfl, show 1 ≤ 16777216 by decide, ?_⟩⟩
    have nwk : Nice 2 250 (.tuple [.str "work", wk]) := (nice_tup (k := 1) (L := 70) fun d hd => by
      simp only [List.mem_cons, List.not_mem_nil, or_false] at hd
      rcases hd with rfl | rfl
      · exact niceB_ok (by decide +kernel)
      · exact works_nice hvs 2 _ (List.mem_append_left _ hwk)).le (Nat.le_refl _) (show 2 * (70 + 2) + 3 ≤ 250 by decide)
    have tail : ∀ (sm : List PyData) (s' : Dk), (∀ x ∈ sm, Nice 2 250 x) → sm.length ≤ 2 → Bud (n + 4 * j + 1) s' →
        nApp 5 (nA mkTup (nCons (nCall 1 m__law_draw (nAL (aCons (rC (.int 3)) aNil))) (nCons (nL (rC .none)) (nCons (nL (rC (.int 0))) (nCons (nL (rTupOw 6)) nNil)))))
          [none, some (.vl (tupS vs)), some (.vl (tupS cs)), some (.vl d), some (.vl (.int (1 + c))), some (.ow ts), some (.ow sm), x7] s' K := fun sm s' hsm hsl hbt => by
      refine ⟨ts, rfl, [.int 3], rfl, rfl, draw_ok (n := n + 4 * j) hbt (by decide) (by decide) fun pr s7 p0 p3 hb7 => ⟨.none, rfl, .int 0, rfl, .tuple sm, rfl, .tuple [.int pr, .none, .int 0, .tuple sm], rfl, by omega, hK _ s7 ⟨some (.vl d), some (.ow sm), x7, ts ++ [.tuple [.int pr, .none, .int 0, .tuple sm]], rfl, by rw [List.length_append, List.length_singleton]; omega, fun t ht => ?_, hb7⟩⟩⟩
      rcases List.mem_append.mp ht with ht | ht
      · exact hts t ht
      · rw [List.mem_singleton.mp ht]
        have n1 : Nice 3 510 (.tuple sm) := (nice_tup hsm (by omega)).le (Nat.le_refl _) (by omega)
        exact (nice_tup (k := 3) (L := 510) fun d hd => by
          simp only [List.mem_cons, List.not_mem_nil, or_false] at hd
          rcases hd with rfl | rfl | rfl | rfl
          · exact (small_nice p0 p3).le (by decide) (by decide)
          · exact (niceB_ok (k := 0) (L := 40) (by decide +kernel)).le (by decide) (by decide)
          · exact (niceB_ok (k := 0) (L := 40) (by decide +kernel)).le (by decide) (by decide)
          · exact n1).le (Nat.le_refl _) (show 4 * (510 + 2) + 3 ≤ 2100 by decide)
    refine ⟨_, chan_ev hcs _ _ _ _ _ _, ifs (fun hq => ?_) (fun hq => ?_)⟩
    · refine ⟨[.int 3], rfl, rfl, draw_ok (n := n + 4 * j + 2) hb5 (by decide) (by decide) fun r6 s6 _ _ hb6 => ⟨.int 0, rfl, .bool (decide (r6 = 0)), rfl, _, rfl, ifs (fun hq2 => ?_) (fun hq2 => ?_)⟩⟩
      · have he := emit_ev hvs (some (.vl (tupS cs))) (some (.vl d)) (some (.vl (.int (1 + c)))) (some (.ow ts)) (some (.ow [.tuple [.str "work", wk]])) x7
        have hel := works_len (ns := [0, 3, 7]) (vs := vs.take 1) rfl (by have := vars_len hvs; rw [List.length_take]; omega)
        obtain ⟨c0, cr, rfl⟩ : ∃ c0 cr, cs = c0 :: cr := by
          cases cs with
          | nil => cases hq
          | cons a b => exact ⟨a, b, rfl⟩
        refine ⟨[.tuple [.str "work", wk]], rfl, .str "emit", rfl, .str c0, e2_ok (x := tupS (c0 :: cr)) rfl rfl (ix_t (j := 0) rfl), [.list (worksOf [0, 3, 7] (vs.take 1))], he, rfl, pick_l (n := n + 4 * j + 1) hb6 hel.1 hel.2 fun em s7 hem hb7 => ⟨.tuple [.str "emit", .str c0, em], rfl, by show 1 < 16777216; decide, ?_⟩⟩
        refine tail [.tuple [.str "work", wk], .tuple [.str "emit", .str c0, em]] s7 (fun x hx => ?_) (by show 2 ≤ 2; decide) hb7
        simp only [List.mem_cons, List.not_mem_nil, or_false] at hx
        rcases hx with rfl | rfl
        · exact nwk
        · have hc0 : Nice 1 70 (.str c0) := by
            have : ∀ cs ∈ chansMenu, ∀ c ∈ cs, niceB 1 70 (.str c) = true := by decide +kernel
            exact niceB_ok (this _ hcs c0 (List.mem_cons_self ..))
          exact (nice_tup (k := 1) (L := 70) fun d hd => by
            simp only [List.mem_cons, List.not_mem_nil, or_false] at hd
            rcases hd with rfl | rfl | rfl
            · exact niceB_ok (by decide +kernel)
            · exact hc0
            · exact works_nice hvs 1 _ (List.mem_append_right _ hem)).le (Nat.le_refl _) (show 3 * (70 + 2) + 3 ≤ 250 by decide)
      · exact tail [.tuple [.str "work", wk]] s6 (fun x hx => by rw [List.mem_singleton.mp hx]; exact nwk) (by show 1 ≤ 2; decide) (hb6.le (by omega))
    · exact ifs (fun h => by cases h) fun _ => tail [.tuple [.str "work", wk]] s5 (fun x hx => by rw [List.mem_singleton.mp hx]; exact nwk) (by show 1 ≤ 2; decide) (hb5.le (by omega))
  · refine ⟨none, none, none, [], rfl, ?_, fun t h => (by cases h), hb4.le ?_⟩
    · rw [upTo_len]
      exact Nat.zero_add _
    · rw [upTo_len]
      omega
  · rintro ρ' s' ⟨x3, x6, x7, ts, rfl, hl, hts, hbn⟩
    exact ⟨_, rfl, hW ⟨vs, cs, 1 + c, ts⟩ s' ⟨hvs, hcs, hc2, by show 1 ≤ ts.length; omega, by show ts.length ≤ 3; omega, hts⟩ hbn⟩
end K73

set_option maxHeartbeats 2000000
namespace K73
open PySem PySem.Spec PyProof.Rows L2 Pd
/-! ### requirements -/
inductive Part where
  | ends (t : Int) (e : Ex)
  | emits (c : Str) (ns : List PyData)
  | alone (w : Str)
def Part.data : Part → PyData
  | .ends t e => .tuple [.str "ends", .int t, e.data]
  | .emits c ns => .tuple [.str "emits", .str c, .tuple ns]
  | .alone w => .tuple [.str w]
def POk (p : PrG) : Part → Prop
  | .ends t e => 0 ≤ t ∧ t < p.ts.length ∧ EOk p.vars 4 e
  | .emits c ns => c ∈ p.chans ∧ ns.length ≤ 3 ∧ ∀ x ∈ ns, x ∈ numsM
  | .alone w => w = "unblocked" ∨ w = "faultless"
def allD (ds : List PyData) : PyData := .tuple [.str "all", .tuple ds]
inductive Rq where
  | one (p : Part)
  | all (ps : List Part) (sub : Option (List Part))
def subD : Option (List Part) → List PyData
  | none => []
  | some qs => [allD (qs.map Part.data)]
def Rq.data : Rq → PyData
  | .one p => p.data
  | .all ps sub => allD (ps.map Part.data ++ subD sub)
def Rq.flat : Rq → List Part
  | .one p => [p]
  | .all ps none => ps
  | .all ps (some qs) => ps ++ qs
def ROk (p : PrG) : Rq → Prop
  | .one q => POk p q
  | .all ps sub => ps.length ≤ 3 ∧ (∀ q ∈ ps, POk p q) ∧ ∀ qs, sub = some qs → qs.length ≤ 2 ∧ ∀ q ∈ qs, POk p q
theorem chan_ne {cs : List Str} {ρ : Sl} {i : Nat} (h : cs ∈ chansMenu) (hv : rVar i ρ = some (tupS cs)) : tVal (rE2 fNe (rVar i) (rA mkTup aNil)) ρ = some (!cs.isEmpty) := by
  have key : ∀ cs ∈ chansMenu, isO (fNe (tupS cs) (.tuple [])) (.bool (!cs.isEmpty)) = true := by decide +kernel
  unfold tVal
  rw [e2_ok (a := rVar i) (b := rA mkTup aNil) hv rfl (isO_ok (key cs h))]
  rfl
theorem isEmpty_ne {α : Type} {l : List α} (h : (!l.isEmpty) = true) : 0 < l.length := by
  cases l with
  | nil => cases h
  | cons a b => simp
theorem part_ok {n : Nat} {p : PrG} {s : Dk} {W : PyData → Dk → Prop} (hp : p.Ok) (hb : Bud (n + 32) s) (hW : ∀ q s', POk p q → Bud n s' → W q.data s') : m__law_part [p.data] s W := by
  refine ⟨tupS p.chans, rfl, [.int 5], rfl, rfl, draw_ok (n := n + 31) hb (by decide) (by decide) fun way s1 w0 w5 hb1 => ⟨_, _, rfl, ?_⟩⟩
  refine ⟨_, tAnd_ok rfl (chan_ne (i := 2) hp.c rfl), ifs (fun hq => ?_) (fun hq => ?_)⟩
  · rw [Bool.and_eq_true] at hq
    refine ⟨[.int 4], rfl, rfl, draw_ok (n := n + 30) hb1 (by decide) (by decide) fun m s2 m0 m4 hb2 => ⟨m, rfl, by omega, by omega, by rw [upTo_len]; omega, ?_⟩⟩
    refine lcN_inv (· ∈ numsM) (fun j s => Bud (n + 1 + j) s) (fun d j s K hj hK => ⟨[(5, d)], rfl, [], rfl, rfl, number_ok hj hK⟩) _ _ _ (hb2.le (by rw [upTo_len]; omega)) fun xs s3 hl hP hb3 => ?_
    rw [upTo_len] at hl
    refine ⟨.tuple xs, rfl, _, rfl, .str "emits", rfl, [tupS p.chans], rfl, rfl, pick_t hb3 (by rw [List.length_map]; exact isEmpty_ne hq.2) (by rw [List.length_map]; have := chans_len hp.c; omega) fun c s4 hc hb4 => ⟨.tuple xs, rfl, _, rfl, ?_⟩⟩
    obtain ⟨c', hc', rfl⟩ := List.mem_map.mp hc
    exact hW (.emits c' xs) s4 ⟨hc', by omega, hP⟩ hb4
  · refine ⟨_, rfl, ifs (fun hq1 => ?_) (fun hq1 => ?_)⟩
    · refine ⟨[.list [.tuple [.str "unblocked"], .tuple [.str "faultless"]]], rfl, rfl, pick_l (n := n + 30) hb1 (by decide) (by decide) fun x s2 hx hb2 => ?_⟩
      simp only [List.mem_cons, List.not_mem_nil, or_false] at hx
      rcases hx with rfl | rfl
      · exact hW (.alone "unblocked") s2 (.inl rfl) (hb2.le (by omega))
      · exact hW (.alone "faultless") s2 (.inr rfl) (hb2.le (by omega))
    · have l1 := hp.l1
      have l3 := hp.l3
      refine ⟨.str "ends", rfl, [.int p.ts.length], rfl, rfl, draw_ok (n := n + 30) hb1 (by omega) (by omega) fun t s2 t0 t3 hb2 => ?_⟩
      refine ⟨[tupS p.vars, .int 4], rfl, rfl, expr_ok (vars := p.vars) 5 3 n (by have := vars_len hp.v; omega) ((vars_nice hp.v).shaped (by decide)) (by decide) hb2 fun e s3 he hb3 => ⟨_, rfl, ?_⟩⟩
      exact hW (.ends t e) s3 ⟨t0, t3, he⟩ hb3
theorem parts_of_data {p : PrG} : ∀ {xs : List PyData}, (∀ x ∈ xs, ∃ q, POk p q ∧ x = q.data) → ∃ qs : List Part, qs.length = xs.length ∧ xs = qs.map Part.data ∧ ∀ q ∈ qs, POk p q
  | [], _ => ⟨[], rfl, rfl, fun _ h => by cases h⟩
  | x :: xs, h => by
    obtain ⟨q, h1, rfl⟩ := h x (List.mem_cons_self ..)
    obtain ⟨qs, h2, rfl, h3⟩ := parts_of_data (xs := xs) fun y hy => h y (List.mem_cons_of_mem _ hy)
    refine ⟨q :: qs, by rw [List.length_cons, List.length_cons, h2], rfl, fun z hz => ?_⟩
    rcases List.mem_cons.mp hz with rfl | hz
    · exact h1
    · exact h3 z hz
theorem requirement_ok {n : Nat} {p : PrG} {s : Dk} {W : PyData → Dk → Prop} (hp : p.Ok) (hb : Bud (n + 170) s) (hW : ∀ r s', ROk p r → Bud n s' → W r.data s') : m__law_requirement [p.data] s W := by
  refine ⟨[.int 6], rfl, rfl, draw_ok (n := n + 169) hb (by decide) (by decide) fun many s1 m0 m6 hb1 => ⟨_, rfl, _, rfl, ifs (fun hq => ?_) (fun hq => ?_)⟩⟩
  · refine ⟨[p.data], rfl, rfl, part_ok (n := n) hp (hb1.le (by omega)) fun q s2 hq hb2 => hW (.one q) s2 hq hb2⟩
  · have hm : ¬ many < 2 := of_decide_eq_false hq
    refine ⟨.int (many - 2), rfl, many - 2, rfl, by omega, by omega, by rw [upTo_len]; omega, ?_⟩
    refine lcN_inv (fun x => ∃ q, POk p q ∧ x = q.data) (fun j s => Bud (n + 66 + 32 * j) s) (fun d j s K hj hK => ⟨[(4, d)], rfl, [p.data], rfl, rfl, part_ok (n := n + 66 + 32 * j) hp (hj.le (by omega)) fun q s' hq hb' => hK _ s' ⟨q, hq, rfl⟩ hb'⟩) _ _ _ (hb1.le (by rw [upTo_len]; omega)) fun xs s3 hl hP hb3 => ?_
    rw [upTo_len] at hl
    obtain ⟨ps, hpl, rfl, hps⟩ := parts_of_data hP
    have hp3 : ps.length ≤ 3 := by omega
    have fin : ∀ (sub : Option (List Part)) (s4 : Dk), ROk p (.all ps sub) → Bud n s4 → W (Rq.data (.all ps sub)) s4 := fun sub s4 h hb4 => hW _ s4 h hb4
    refine ⟨[.int 3], rfl, rfl, draw_ok (n := n + 65) hb3 (by decide) (by decide) fun r s4 _ _ hb4 => ⟨.int 0, rfl, .bool (decide (r = 0)), rfl, _, rfl, ifs (fun hr => ?_) (fun hr => ?_)⟩⟩
    · refine ⟨ps.map Part.data, rfl, .str "all", rfl, [.int 3], rfl, rfl, draw_ok (n := n + 64) hb4 (by decide) (by decide) fun m s5 m0 m3 hb5 => ⟨m, rfl, by omega, by omega, by rw [upTo_len]; omega, ?_⟩⟩
      refine lcN_inv (fun x => ∃ q, POk p q ∧ x = q.data) (fun j s => Bud (n + 32 * j) s) (fun d j s K hj hK => ⟨[(4, d)], rfl, [p.data], rfl, rfl, part_ok (n := n + 32 * j) hp (hj.le (by omega)) fun q s' hq hb' => hK _ s' ⟨q, hq, rfl⟩ hb'⟩) _ _ _ (hb5.le (by rw [upTo_len]; omega)) fun ys s6 hl2 hP2 hb6 => ?_
      rw [upTo_len] at hl2
      obtain ⟨qs, hql, rfl, hqs⟩ := parts_of_data hP2
      refine ⟨.tuple (qs.map Part.data), rfl, allD (qs.map Part.data), rfl, by rw [List.length_map]; omega, ?_⟩
      refine ⟨_, rfl, ?_⟩
      exact fin (some qs) s6 ⟨hp3, hps, fun qs' h => by cases h; exact ⟨by omega, hqs⟩⟩ hb6
    · refine ⟨_, rfl, ?_⟩
      have := fin none s4 ⟨hp3, hps, fun qs' h => by cases h⟩ (hb4.le (by omega))
      have e : Rq.data (.all ps none) = allD (ps.map Part.data) := by
        show allD (ps.map Part.data ++ []) = _
        rw [List.append_nil]
      rw [e] at this
      exact this
/-! ### sights -/
inductive Sg where
  | emits (c : Str)
  | later (a b : PyData)
  | one (w : Str) (a : PyData)
def Sg.data : Sg → PyData
  | .emits c => .tuple [.str "emits", .str c]
  | .later a b => .tuple [.str "later", a, b]
  | .one w a => .tuple [.str w, a]
def SOk (p : PrG) : Sg → Prop
  | .emits c => c ∈ p.chans
  | .later a b => a ∈ namesM ∧ b ∈ namesM
  | .one w a => (w = "time" ∨ w = "comes") ∧ a ∈ namesM
theorem sight_ok {n : Nat} {p : PrG} {s : Dk} {W : PyData → Dk → Prop} (hp : p.Ok) (hb : Bud (n + 10) s) (hW : ∀ q s', SOk p q → Bud n s' → W q.data s') : m__law_sight [p.data] s W := by
  refine ⟨tupS p.chans, rfl, [.int 4], rfl, rfl, draw_ok (n := n + 9) hb (by decide) (by decide) fun way s1 w0 w5 hb1 => ⟨_, _, rfl, ?_⟩⟩
  refine ⟨_, tAnd_ok rfl (chan_ne (i := 2) hp.c rfl), ifs (fun hq => ?_) (fun hq => ?_)⟩
  · rw [Bool.and_eq_true] at hq
    refine ⟨.str "emits", rfl, [tupS p.chans], rfl, rfl, pick_t (n := n + 8) hb1 (by rw [List.length_map]; exact isEmpty_ne hq.2) (by rw [List.length_map]; have := chans_len hp.c; omega) fun c s4 hc hb4 => ⟨_, rfl, ?_⟩⟩
    obtain ⟨c', hc', rfl⟩ := List.mem_map.mp hc
    exact hW (.emits c') s4 hc' (hb4.le (by omega))
  · refine ⟨_, rfl, ifs (fun hq1 => ?_) (fun hq1 => ?_)⟩
    · refine ⟨.str "later", rfl, [], rfl, rfl, name_ok (n := n + 5) hb1 fun a s2 ha hb2 => ⟨[], rfl, rfl, name_ok (n := n + 1) hb2 fun b s3 hb' hb3 => ⟨_, rfl, ?_⟩⟩⟩
      exact hW (.later a b) s3 ⟨ha, hb'⟩ (hb3.le (by omega))
    · refine ⟨[.list [.str "time", .str "comes"]], rfl, rfl, pick_l (n := n + 8) hb1 (by decide) (by decide) fun x s2 hx hb2 => ⟨[], rfl, rfl, name_ok (n := n + 4) hb2 fun a s3 ha hb3 => ⟨_, rfl, ?_⟩⟩⟩
      simp only [List.mem_cons, List.not_mem_nil, or_false] at hx
      rcases hx with rfl | rfl
      · exact hW (.one "time" a) s3 ⟨.inl rfl, ha⟩ (hb3.le (by omega))
      · exact hW (.one "comes" a) s3 ⟨.inr rfl, ha⟩ (hb3.le (by omega))
end K73

set_option maxHeartbeats 2000000
namespace K73
open PySem PySem.Spec PyProof.Rows L2 Pd
/-! ### names as keys -/
structure Nm where
  t : Int
  p : Int
  rs : List Int
  k : Str
def nmD (n : Nm) : PyData := .tuple [.int n.t, .int n.p, .tuple (n.rs.map .int), .str n.k]
def nmK (n : Nm) : NestedKey := .tup [.num n.t, .num n.p, .tup (n.rs.map .num), .text n.k]
theorem datas_nums : ∀ l : List Int, NestedKey.datas (l.map .num) = l.map .int
  | [] => by simp [NestedKey.datas]
  | i :: l => by
    show NestedKey.datas (.num i :: l.map .num) = .int i :: l.map .int
    simp [NestedKey.datas, NestedKey.data, datas_nums l]
theorem nmK_data (n : Nm) : (nmK n).data = nmD n := by
  unfold nmK nmD
  simp [NestedKey.data, NestedKey.datas, datas_nums]
theorem depth_nums : ∀ l : List Int, NestedKey.depthAll (l.map .num) = 0
  | [] => by simp [NestedKey.depthAll]
  | i :: l => by
    show NestedKey.depthAll (.num i :: l.map .num) = 0
    simp [NestedKey.depthAll, NestedKey.depth, depth_nums l]
theorem nmK_depth (n : Nm) : (nmK n).depth ≤ 8 := by
  unfold nmK
  simp [NestedKey.depth, NestedKey.depthAll, depth_nums]
theorem names_nm {d : PyData} (h : d ∈ namesM) : ∃ n, d = nmD n := by
  obtain ⟨t, h1, p, h2, r, h3, k, h4, rfl⟩ := names_of h
  have e1 : ∃ i, t = .int i := by
    unfold tasksM at h1
    simp only [List.mem_cons, List.not_mem_nil, or_false] at h1
    rcases h1 with h | h | h | h <;> exact ⟨_, h⟩
  have e2 : ∃ i, p = .int i := by
    unfold placesM at h2
    simp only [List.mem_cons, List.not_mem_nil, or_false] at h2
    rcases h2 with h | h | h | h | h <;> exact ⟨_, h⟩
  have e3 : ∃ l : List Int, r = .tuple (l.map .int) := by
    unfold roundsM at h3
    simp only [List.mem_cons, List.not_mem_nil, or_false] at h3
    rcases h3 with h | h | h | h
    · exact ⟨[], h⟩
    · exact ⟨[0], h⟩
    · exact ⟨[3, 1], h⟩
    · exact ⟨[12], h⟩
  have e4 : ∃ x, k = .str x := by
    unfold kindsM at h4
    simp only [List.mem_cons, List.not_mem_nil, or_false] at h4
    rcases h4 with h | h | h | h | h <;> exact ⟨_, h⟩
  obtain ⟨a, rfl⟩ := e1
  obtain ⟨b, rfl⟩ := e2
  obtain ⟨l, rfl⟩ := e3
  obtain ⟨x, rfl⟩ := e4
  exact ⟨⟨a, b, l, x⟩, rfl⟩
/-! ### the order of names -/
open PySem.W in
theorem toks_ints : ∀ (l m : List Int) (A B : List (Int ⊕ List Nat)), keyToksAll (l.map .int) ++ A = keyToksAll (m.map .int) ++ B → l = m ∧ A = B
  | [], [], A, B, h => by
    simp only [List.map_nil, keyToksAll, List.cons_append, List.nil_append, List.cons.injEq, true_and] at h
    exact ⟨rfl, h⟩
  | [], b :: m, A, B, h => by
    simp [keyToksAll] at h
  | a :: l, [], A, B, h => by
    simp [keyToksAll] at h
  | a :: l, b :: m, A, B, h => by
    simp only [List.map_cons, keyToksAll, keyToks, List.cons_append, List.nil_append, List.cons.injEq, true_and, Sum.inl.injEq] at h
    obtain ⟨h1, h2⟩ := h
    obtain ⟨h3, h4⟩ := toks_ints l m A B h2
    exact ⟨by rw [h1, h3], h4⟩
open PySem.W in
theorem toks_inj {a b : Nm} (h : keyToks (nmD a) = keyToks (nmD b)) : a = b := by
  obtain ⟨t, p, rs, k⟩ := a
  obtain ⟨t', p', rs', k'⟩ := b
  unfold nmD at h
  simp only [keyToks, keyToksAll, List.cons_append, List.nil_append, List.cons.injEq, true_and, Sum.inl.injEq] at h
  obtain ⟨h1, h2, h3⟩ := h
  obtain ⟨h4, h5⟩ := toks_ints rs rs' _ _ h3
  simp only [List.cons.injEq, true_and, Sum.inr.injEq, and_true] at h5
  have h6 : k = k' := TL.ext_tl h5
  rw [h1, h2, h4, h6]
theorem nm_alike (a b : Nm) : PySem.W.alike (nmD a) (nmD b) = true := by
  unfold nmD
  simp [PySem.W.alike, PySem.W.alikeAll, PySem.W.alike_ints]
theorem lt_total {a b : Nm} (h : PySem.W.dataLt (nmD b) (nmD a) = false) (hne : a ≠ b) : PySem.W.dataLt (nmD a) (nmD b) = true := by
  cases q : PySem.W.dataLt (nmD a) (nmD b) with
  | true => rfl
  | false => exact absurd (toks_inj (lex_total _ _ q h)) hne
/-! ### the dict of a measure -/
structure MInv (w : World) (m : NkM) : Prop where
  fit : NkFit w m
  key : ∀ p ∈ m, ∃ n, p.1 = nmK n ∧ nmD n ∈ namesM
  val : ∀ p ∈ m, p.2.2 ∈ numsM ∧ p.2.2 ≠ .int 0
theorem MInv.nil {w : World} : MInv w [] := ⟨⟨fun p h => (by cases h), List.nodup_nil⟩, fun p h => (by cases h), fun p h => (by cases h)⟩
theorem store_map (m : NkM) (k : NestedKey) (dv : PyData) [DecidablePred fun p : NestedKey × Int × PyData => p.1 = k] : (m.map (fun p => if p.1 = k then (p.1, p.2.1, dv) else p)).map (·.1) = m.map (·.1) := by
  rw [List.map_map]
  refine List.map_congr_left fun p _ => ?_
  show (if p.1 = k then (p.1, p.2.1, dv) else p).1 = p.1
  split <;> rfl
theorem MInv.store {w : World} {m : NkM} {n : Nm} {dv : PyData} (h : MInv w m) (hn : nmD n ∈ namesM) (hv : dv ∈ numsM ∧ dv ≠ .int 0) : MInv w (storeNk m (nmK n) ((nmK n).hash w) dv) ∧ (storeNk m (nmK n) ((nmK n).hash w) dv).length ≤ m.length + 1 ∧ storeNk m (nmK n) ((nmK n).hash w) dv ≠ [] := by
  unfold storeNk
  split
  · rename_i hk
    refine ⟨⟨⟨fun p hp => ?_, ?_⟩, fun p hp => ?_, fun p hp => ?_⟩, by rw [List.length_map]; omega, fun z => ?_⟩
    · obtain ⟨q, hq, rfl⟩ := List.mem_map.mp hp
      have := h.fit.1 q hq
      split <;> exact this
    · rw [store_map]
      exact h.fit.2
    · obtain ⟨q, hq, rfl⟩ := List.mem_map.mp hp
      have := h.key q hq
      split <;> exact this
    · obtain ⟨q, hq, rfl⟩ := List.mem_map.mp hp
      have := h.val q hq
      split
      · exact hv
      · exact this
    · have z' := List.map_eq_nil_iff.mp z
      rw [z'] at hk
      cases hk
  · rename_i hk
    refine ⟨⟨⟨fun p hp => ?_, ?_⟩, fun p hp => ?_, fun p hp => ?_⟩, by rw [List.length_append]; exact Nat.le_refl _, fun z => by simp at z⟩
    · rcases List.mem_append.mp hp with hp | hp
      · exact h.fit.1 p hp
      · rw [List.mem_singleton.mp hp]
        exact ⟨nmK_depth n, rfl⟩
    · rw [List.map_append]
      refine List.nodup_append.mpr ⟨h.fit.2, by simp, fun a ha b hb => ?_⟩
      have hb' : b = nmK n := by simpa using hb
      rw [hb']
      exact fun z => hk (z ▸ ha)
    · rcases List.mem_append.mp hp with hp | hp
      · exact h.key p hp
      · rw [List.mem_singleton.mp hp]
        exact ⟨n, rfl, hn⟩
    · rcases List.mem_append.mp hp with hp | hp
      · exact h.val p hp
      · rw [List.mem_singleton.mp hp]
        exact hv
def nz (d : PyData) : PyData := if eqD d (.int 0) then .int 1 else d
theorem nz0 : numsM.all (fun d => isO (fNe d (.int 0)) (.bool (!eqD d (.int 0))) && (numsM.any fun e => eqD e (nz d)) && !eqD (nz d) (.int 0)) = true := by decide +kernel
mutual
theorem eqD_refl : ∀ d : PyData, d.hasDict = false → eqD d d = true
  | .none, _ => by simp [eqD]
  | .bool b, _ => by simp [eqD]
  | .int i, _ => by simp [eqD]
  | .str x, _ => by simp [eqD]
  | .list xs, h => by
    simp only [PyData.hasDict] at h
    simp only [eqD]
    exact eqDs_refl xs h
  | .tuple xs, h => by
    simp only [PyData.hasDict] at h
    simp only [eqD]
    exact eqDs_refl xs h
  | .dict _, h => by simp [PyData.hasDict] at h
theorem eqDs_refl : ∀ ds : List PyData, PyData.hasDictAll ds = false → eqDs ds ds = true
  | [], _ => by simp [eqDs]
  | d :: ds, h => by
    simp only [PyData.hasDictAll, Bool.or_eq_false_iff] at h
    simp only [eqDs, eqD_refl d h.1, eqDs_refl ds h.2, Bool.and_self]
end
theorem nz_ok {d : PyData} (h : d ∈ numsM) : fNe d (.int 0) = some (.bool (!eqD d (.int 0))) ∧ nz d ∈ numsM ∧ nz d ≠ .int 0 := by
  have z := List.all_eq_true.mp nz0 d h
  simp only [Bool.and_eq_true, Bool.not_eq_true'] at z
  obtain ⟨⟨z1, z2⟩, z3⟩ := z
  refine ⟨isO_ok z1, ?_, fun q => ?_⟩
  · obtain ⟨e, he, q⟩ := List.any_eq_true.mp z2
    rw [← eqD_ok _ _ q]
    exact he
  · rw [q] at z3
    rw [eqD_refl _ (by simp [PyData.hasDict])] at z3
    cases z3
theorem forMs_ok {w : World} (n c : Nat) (hc : c ≤ 100) : ∀ (ds : List PyData) (ρ : Sl) (s : Dk) (m : NkM) (W : Sl → Dk → NkM → Prop), ρ.length = 5 → Bud (n + 5 * ds.length) s → MInv w m → m.length + ds.length ≤ c →
    (∀ ρ' s' m', ρ'.length = 5 → MInv w m' → m'.length ≤ c → (ds ≠ [] ∨ m ≠ [] → m' ≠ []) → Bud n s' → W ρ' s' m') → forMs w ds ρ s m W
  | [], ρ, s, m, W, hr, hb, hm, hl, hW => hW ρ s m hr hm hl (fun q => q.elim (fun z => absurd rfl z) id) hb
  | x :: ds, ρ, s, m, W, hr, hb, hm, hl, hW => by
    rw [List.length_cons] at hb hl
    refine ⟨hm.fit, by omega, [], rfl, rfl, number_ok (n := n + 5 * ds.length + 4) (hb.le (by omega)) fun num s1 hn hb1 => ?_⟩
    obtain ⟨e1, e2, e3⟩ := nz_ok hn
    have hv : rVar 3 ((ρ.set 2 (some (.vl x))).set 3 (some (.vl num))) = some num := by
      unfold rVar
      rw [List.getElem?_set_self (by rw [List.length_set, hr]; decide)]
    have ht : tVal (rE2 fNe (rVar 3) (rC (.int 0))) ((ρ.set 2 (some (.vl x))).set 3 (some (.vl num))) = some (!eqD num (.int 0)) := by
      unfold tVal
      rw [e2_ok hv rfl e1]
      rfl
    have hd : rIf (tVal (rE2 fNe (rVar 3) (rC (.int 0)))) (rVar 3) (rC (.int 1)) ((ρ.set 2 (some (.vl x))).set 3 (some (.vl num))) = some (nz num) := by
      unfold rIf nz
      rw [ht]
      cases eqD num (.int 0) with
      | true => rfl
      | false => exact hv
    refine ⟨nz num, hd, [], rfl, rfl, name_ok (n := n + 5 * ds.length) hb1 fun nm s2 hnm hb2 => ?_⟩
    obtain ⟨a, rfl⟩ := names_nm hnm
    obtain ⟨g1, g2, g3⟩ := hm.store (n := a) (dv := nz num) hnm ⟨e2, e3⟩
    refine ⟨nmK a, _, (nmK_data a).symm, rfl, nmK_depth a, ?_⟩
    exact forMs_ok n c hc ds _ s2 _ W (by rw [List.length_set, List.length_set]; exact hr) hb2 g1 (by omega) fun ρ' s' m' k1 k2 k3 k4 k5 => hW ρ' s' m' k1 k2 k3 (fun _ => k4 (.inr g3)) k5
/-! ### measures -/
def msD (xs : List (Nm × PyData)) : PyData := .tuple (xs.map fun p => .tuple [nmD p.1, p.2])
def Asc : List (Nm × PyData) → Prop
  | a :: b :: r => PySem.W.dataLt (nmD a.1) (nmD b.1) = true ∧ Asc (b :: r)
  | _ => True
structure MsOk (xs : List (Nm × PyData)) : Prop where
  l1 : 1 ≤ xs.length
  l4 : xs.length ≤ 4
  nm : ∀ p ∈ xs, nmD p.1 ∈ namesM
  nu : ∀ p ∈ xs, p.2 ∈ numsM ∧ p.2 ≠ .int 0
  asc : Asc xs
end K73

set_option maxHeartbeats 2000000
namespace K73
open PySem PySem.Spec PyProof.Rows L2 Pd
theorem rA_ok {f : List PyData → Option PyData} {a : A1} {ρ : Sl} {xs : List PyData} {d : PyData} (ha : a ρ = some xs) (h : f xs = some d) : rA f a ρ = some d := by
  unfold rA
  rw [ha]
  exact h
theorem aC_ok {a : E1} {t : A1} {ρ : Sl} {d : PyData} {ds : List PyData} (ha : a ρ = some d) (ht : t ρ = some ds) : aCons a t ρ = some (d :: ds) := by
  unfold aCons
  rw [ha]
  show (t ρ).map _ = _
  rw [ht]
  rfl
theorem e1_ok {f : PyData → Option PyData} {a : E1} {ρ : Sl} {x d : PyData} (ha : a ρ = some x) (h : f x = some d) : rE1 f a ρ = some d := by
  unfold rE1
  rw [ha]
  exact h
theorem lcD_map {α : Type} {step : PyData → Option (Option PyData)} {h : α → PyData} {g : α → PyData} : ∀ {xs : List α}, (∀ a ∈ xs, step (h a) = some (some (g a))) → lcD step (xs.map h) = some (xs.map g)
  | [], _ => rfl
  | a :: xs, q => by
    show (match step (h a) with
      | some (some x) => (lcD step (xs.map h)).map fun xs => x :: xs
      | some none => lcD step (xs.map h)
      | none => none) = _
    rw [q a (List.mem_cons_self ..), lcD_map fun b hb => q b (List.mem_cons_of_mem _ hb)]
    rfl
/-- a comprehension over a list of data, each turn told -/
theorem lc_ok {α : Type} {src : A1} {g : TgD} {e : E1} {vs : List Nat} {ρ : Sl} {xs : List α} {h f : α → PyData} (hs : src ρ = some (xs.map h)) (hl : xs.length ≤ 16000000) (he : ∀ a ∈ xs, ∃ l, g (h a) = some l ∧ e (setD (wipeD ρ vs) l) = some (f a)) :
    rLc src g tTrue e vs ρ = some (.list (xs.map f)) := by
  unfold rLc
  rw [hs]
  show (if (xs.map h).length ≤ 16000000 then (lcD (lcStep g tTrue e (wipeD ρ vs)) (xs.map h)).map PyData.list else none) = _
  rw [if_pos (by rw [List.length_map]; exact hl), lcD_map (g := f) fun a ha => ?_]
  · rfl
  · obtain ⟨l, h1, h2⟩ := he a ha
    unfold lcStep
    rw [h1]
    show (e (setD (wipeD ρ vs) l)).map some = _
    rw [h2]
    rfl
open Classical in
theorem find_some {m : NkM} {w : World} {a : Nm} (hm : MInv w m) (h : nmK a ∈ m.map (·.1)) : ∃ v, lookNk m (nmD a) = some v ∧ v ∈ numsM ∧ v ≠ .int 0 := by
  unfold lookNk
  obtain ⟨p, hp, e⟩ := List.mem_map.mp h
  cases q : m.find? (fun p => decide ((∃ ks, p.1 = NestedKey.tup ks) ∧ p.1.data = nmD a)) with
  | none =>
    have := List.find?_eq_none.mp q p hp
    exact absurd (decide_eq_true (⟨⟨_, by rw [e]; rfl⟩, by rw [e]; exact nmK_data a⟩ : (∃ ks, p.1 = NestedKey.tup ks) ∧ p.1.data = nmD a)) this
  | some p' => exact ⟨p'.2.2, rfl, hm.val p' (List.mem_of_find?_eq_some q)⟩
theorem keys_nm : ∀ {m : NkM}, (∀ p ∈ m, ∃ n, p.1 = nmK n ∧ nmD n ∈ namesM) → ∃ ns : List Nm, m.map (·.1) = ns.map nmK ∧ ∀ n ∈ ns, nmD n ∈ namesM
  | [], _ => ⟨[], rfl, fun _ h => (by cases h)⟩
  | p :: m, h => by
    obtain ⟨n, h1, h2⟩ := h p (List.mem_cons_self ..)
    obtain ⟨ns, h3, h4⟩ := keys_nm fun q hq => h q (List.mem_cons_of_mem _ hq)
    refine ⟨n :: ns, by rw [List.map_cons, List.map_cons, h1, h3], fun z hz => ?_⟩
    rcases List.mem_cons.mp hz with rfl | hz
    · exact h2
    · exact h4 z hz
theorem asc_of (f : Nm → PyData) : ∀ {ns : List Nm}, ns.Pairwise (fun a b => PySem.W.dataLe false nmD a b = true) → ns.Nodup → Asc (ns.map fun a => (a, f a))
  | [], _, _ => trivial
  | [_], _, _ => trivial
  | a :: b :: r, hp, hn => by
    have h1 := List.rel_of_pairwise_cons hp (List.mem_cons_self ..)
    have h2 : a ≠ b := fun z => (List.nodup_cons.mp hn).1 (z ▸ List.mem_cons_self ..)
    refine ⟨lt_total ?_ h2, asc_of f (ns := b :: r) (List.Pairwise.of_cons hp) (List.nodup_cons.mp hn).2⟩
    have h3 : (!PySem.W.dataLt (nmD b) (nmD a)) = true := h1
    simpa using h3
theorem le_trans' (a b c : Nm) (h1 : PySem.W.dataLe false nmD a b = true) (h2 : PySem.W.dataLe false nmD b c = true) : PySem.W.dataLe false nmD a c = true := by
  have h1' : (!PySem.W.dataLt (nmD b) (nmD a)) = true := h1
  have h2' : (!PySem.W.dataLt (nmD c) (nmD b)) = true := h2
  show (!PySem.W.dataLt (nmD c) (nmD a)) = true
  cases q : PySem.W.dataLt (nmD c) (nmD a) with
  | false => rfl
  | true =>
    rcases lex_negTrans _ (PySem.W.keyToks (nmD b)) _ q with z | z
    · have z' : PySem.W.dataLt (nmD c) (nmD b) = true := z
      rw [z'] at h2'; cases h2'
    · have z' : PySem.W.dataLt (nmD b) (nmD a) = true := z
      rw [z'] at h1'; cases h1'
theorem le_total' (a b : Nm) : (PySem.W.dataLe false nmD a b || PySem.W.dataLe false nmD b a) = true := by
  show (!PySem.W.dataLt (nmD b) (nmD a) || !PySem.W.dataLt (nmD a) (nmD b)) = true
  cases q : PySem.W.dataLt (nmD b) (nmD a) with
  | false => rfl
  | true =>
    cases q2 : PySem.W.dataLt (nmD a) (nmD b) with
    | false => rfl
    | true =>
      have := lex_trans _ _ _ q q2
      rw [lex_irrefl] at this
      cases this
open Classical in
theorem ret_ok {w : World} {m : NkM} {ρ : Sl} (hl : ρ.length = 5) (hm : MInv w m) (h1 : m ≠ []) (h4 : m.length ≤ 4) : ∃ xs, MsOk xs ∧ eRetM w (ρ.set 1 (some (.nk m))) = some (msD xs) := by
  obtain ⟨ns, hk, hns⟩ := keys_nm hm.key
  have hlen : ns.length = m.length := by
    have := congrArg List.length hk
    simpa using this.symm
  have hdat : m.map (fun p => p.1.data) = ns.map nmD := by
    have := congrArg (List.map NestedKey.data) hk
    rw [List.map_map, List.map_map] at this
    rw [show (fun p : NestedKey × Int × PyData => p.1.data) = NestedKey.data ∘ (·.1) from rfl, this]
    exact List.map_congr_left fun a _ => nmK_data a
  have hnd : ns.Nodup := by
    have := hm.fit.2
    rw [hk] at this
    exact List.Pairwise.of_map nmK (fun a b h z => h (z ▸ rfl)) this
  let so := ns.mergeSort (PySem.W.dataLe false nmD)
  have hso : (ns.map nmD).mergeSort (PySem.W.dataLe false id) = so.map nmD := (List.map_mergeSort (r := PySem.W.dataLe false nmD) (s := PySem.W.dataLe false id) (f := nmD) (fun a _ b _ => rfl)).symm
  have hperm : so.Perm ns := List.mergeSort_perm ..
  have hmem : ∀ a ∈ so, a ∈ ns := fun a ha => hperm.mem_iff.mp ha
  have hkey : ∀ a ∈ so, nmK a ∈ m.map (·.1) := fun a ha => by rw [hk]; exact List.mem_map_of_mem (hmem a ha)
  let val : Nm → PyData := fun a => (lookNk m (nmD a)).getD .none
  have hval : ∀ a ∈ so, lookNk m (nmD a) = some (val a) ∧ val a ∈ numsM ∧ val a ≠ .int 0 := fun a ha => by
    obtain ⟨v, e1, e2⟩ := find_some hm (hkey a ha)
    have : val a = v := by show (lookNk m (nmD a)).getD .none = v; rw [e1]; rfl
    rw [this]
    exact ⟨e1, e2⟩
  have hsl : so.length = m.length := by rw [hperm.length_eq, hlen]
  refine ⟨so.map fun a => (a, val a), ⟨?_, ?_, fun p hp => ?_, fun p hp => ?_, ?_⟩, ?_⟩
  · rw [List.length_map, hsl]
    exact List.length_pos_iff.mpr h1
  · rw [List.length_map, hsl]
    exact h4
  · obtain ⟨a, ha, rfl⟩ := List.mem_map.mp hp
    exact hns a (hmem a ha)
  · obtain ⟨a, ha, rfl⟩ := List.mem_map.mp hp
    exact (hval a ha).2
  · exact asc_of val (List.pairwise_mergeSort le_trans' le_total' ns) (hperm.nodup_iff.mpr hnd)
  · have h1' : 1 < ρ.length := by omega
    have hat : ∀ (ρ' : Sl), ρ'[1]? = some (some (.nk m)) → nkAt 1 ρ' = some m := fun ρ' e => by unfold nkAt; rw [e]
    have hs : aList (rNkSort w 1) (ρ.set 1 (some (.nk m))) = some (so.map nmD) := by
      unfold aList rNkSort
      rw [hat _ (List.getElem?_set_self h1')]
      show (match (if NkFit w m ∧ m.length ≤ 1000 ∧ PySem.W.AllAlike (m.map fun p => p.1.data) ∧ PySem.W.Sortable (m.map fun p => p.1.data) ∧ (∀ p ∈ m, p.1.data.depth ≤ 20) then some (PyData.list ((m.map fun p => p.1.data).mergeSort (PySem.W.dataLe false id))) else none) with
        | some (PyData.list ds) => some ds
        | _ => none) = _
      rw [if_pos, hdat, hso]
      refine ⟨hm.fit, by omega, ?_, ?_, fun p hp => ?_⟩
      · rw [hdat]
        exact PySem.W.AllAlike.of nm_alike
      · rw [hdat]
        exact PySem.W.Sortable.tuples fun b => ⟨_, _, rfl⟩
      · obtain ⟨n, e, hn⟩ := hm.key p hp
        rw [e, nmK_data]
        exact Nat.le_trans (names_nice hn).dp (by decide)
    have hlc := lc_ok (src := aList (rNkSort w 1)) (g := gN 4) (e := rA mkTup (aCons (rVar 4) (aCons (rNkGet w 1 (rVar 4)) aNil))) (vs := [4]) (ρ := ρ.set 1 (some (.nk m))) (xs := so) (h := nmD) (f := fun a => .tuple [nmD a, val a]) hs (by omega) fun a ha => ⟨[(4, nmD a)], rfl, ?_⟩
    · exact rA_ok (aC_ok hlc rfl) (by
        show some (PyData.tuple (so.map fun a => PyData.tuple [nmD a, val a])) = _
        unfold msD
        rw [List.map_map]
        rfl)
    · have g1 : (setD (wipeD (ρ.set 1 (some (.nk m))) [4]) [(4, nmD a)])[1]? = some (some (.nk m)) := by
        show (((ρ.set 1 (some (.nk m))).set 4 none).set 4 (some (.vl (nmD a))))[1]? = _
        rw [List.getElem?_set_ne (by decide), List.getElem?_set_ne (by decide), List.getElem?_set_self h1']
      have g4 : rVar 4 (setD (wipeD (ρ.set 1 (some (.nk m))) [4]) [(4, nmD a)]) = some (nmD a) := by
        unfold rVar
        show (match (((ρ.set 1 (some (.nk m))).set 4 none).set 4 (some (.vl (nmD a))))[4]? with
          | some (some (.vl d)) => some d
          | _ => none) = _
        rw [List.getElem?_set_self (by rw [List.length_set, List.length_set]; omega)]
      have g5 : rNkGet w 1 (rVar 4) (setD (wipeD (ρ.set 1 (some (.nk m))) [4]) [(4, nmD a)]) = some (val a) := by
        unfold rNkGet
        rw [hat _ g1]
        show (rVar 4 _).bind _ = _
        rw [g4]
        show (if NkFit w m then lookNk m (nmD a) else none) = _
        rw [if_pos hm.fit]
        exact (hval a ha).1
      exact rA_ok (aC_ok g4 (aC_ok g5 rfl)) rfl
theorem measure_ok {w : World} {n : Nat} {s : Dk} {W : PyData → Dk → Prop} (hb : Bud (n + 25) s) (hW : ∀ xs s', MsOk xs → Bud n s' → W (msD xs) s') : m__law_measure w [] s W := by
  refine ⟨rfl, .int 1, rfl, [.int 4], rfl, rfl, draw_ok (n := n + 24) hb (by decide) (by decide) fun r s1 r0 r4 hb1 => ⟨.int (1 + r), rfl, 1 + r, rfl, by omega, by omega, ?_⟩⟩
  refine forMs_ok n 4 (by decide) _ _ s1 [] _ rfl (hb1.le (by rw [upTo_len]; omega)) MInv.nil (by rw [upTo_len]; show 0 + _ ≤ 4; omega) fun ρ' s' m' k1 k2 k3 k4 k5 => ?_
  have hne : m' ≠ [] := k4 (.inl fun z => by
    have := congrArg List.length z
    rw [upTo_len] at this
    simp at this
    omega)
  obtain ⟨xs, h1, h2⟩ := ret_ok k1 k2 hne k3
  exact ⟨_, h2, hW xs s' h1 k5⟩
end K73

set_option maxHeartbeats 2000000
namespace K73
open PySem PySem.Spec PyProof.Rows L2 Pd
def numsX : List PyData := .int 9 :: numsM
theorem num9 : okNum (.int 9) = true := by decide +kernel
theorem numsX_ok {d : PyData} (h : d ∈ numsX) : okNum d = true := by
  rcases List.mem_cons.mp h with rfl | h
  · exact num9
  · exact nums_ok h
theorem numsX_nice {d : PyData} (h : d ∈ numsX) : Nice 1 40 d := by
  rcases List.mem_cons.mp h with rfl | h
  · exact niceB_ok (by decide +kernel)
  · exact nums_nice h
def lessB (a b : PyData) : Bool := match m__law_less [a, b] with
  | some (.bool x) => x
  | _ => false
theorem less0 : (numsX.all fun a => numsX.all fun b => isO (m__law_less [a, b]) (.bool (lessB a b)) && isO (m_is_less [a, b]) (.bool (lessB a b))) = true := by decide +kernel
theorem less_ok {a b : PyData} (ha : a ∈ numsX) (hb : b ∈ numsX) : m__law_less [a, b] = some (.bool (lessB a b)) ∧ m_is_less [a, b] = some (.bool (lessB a b)) := by
  have z := List.all_eq_true.mp (List.all_eq_true.mp less0 a ha) b hb
  rw [Bool.and_eq_true] at z
  exact ⟨isO_ok z.1, isO_ok z.2⟩
/-- the items of a box, variable by variable -/
structure Bx where
  v : Str
  lo : PyData
  hi : PyData
def bxD (b : Bx) : PyData := .tuple [.str b.v, b.lo, b.hi]
def BxOk (b : Bx) : Prop := b.lo ∈ numsX ∧ b.hi ∈ numsX ∧ lessB b.lo b.hi = true
def bodyB : BN Dk := nSeq (nParS 4 5 (nCons (nCall 0 m__law_number (nAL aNil)) (nCons (nCall 0 m__law_number (nAL aNil)) nNil)))
  (nSeq (nIfS (nTL (tNotD (tVal (rCall 2 m__law_less (aCons (rVar 4) (aCons (rVar 5) aNil)))))) (nParS 4 5 (nAL (aCons (rVar 5) (aCons (rVar 4) aNil)))) nNext)
    (nApp 2 (nL (rIf (tVal (rCall 2 m__law_less (aCons (rVar 4) (aCons (rVar 5) aNil)))) (rA mkTup (aCons (rVar 3) (aCons (rVar 4) (aCons (rVar 5) aNil)))) (rA mkTup (aCons (rVar 3) (aCons (rC (.int 0)) (aCons (rC (.int 9)) aNil))))))))
theorem tlam {ρ : Sl} {i j : Nat} {a b : PyData} (hi : rVar i ρ = some a) (hj : rVar j ρ = some b) (ha : a ∈ numsX) (hb : b ∈ numsX) : tVal (rCall 2 m__law_less (aCons (rVar i) (aCons (rVar j) aNil))) ρ = some (lessB a b) := by
  unfold tVal rCall
  rw [aC_ok hi (aC_ok hj rfl)]
  show (m__law_less [a, b]).bind boolOf = _
  rw [(less_ok ha hb).1]
  rfl
theorem less09 : lessB (.int 0) (.int 9) = true := by decide +kernel
theorem boxloop {n : Nat} {pd : PyData} : ∀ (vs : List Str) (done : List PyData) (x3 x4 x5 : Option Cell) (s : Dk) (W : Fl → Dk → Prop), done.length + vs.length ≤ 100 → Bud (n + 2 * vs.length) s →
    (∀ (bs : List Bx) (x3 x4 x5 : Option Cell) (s' : Dk), bs.map Bx.v = vs → (∀ b ∈ bs, BxOk b) → Bud n s' → W (.nx [none, some (.vl pd), some (.ow (done ++ bs.map bxD)), x3, x4, x5]) s') →
    forN (gN 3) bodyB (vs.map .str) [none, some (.vl pd), some (.ow done), x3, x4, x5] s W
  | [], done, x3, x4, x5, s, W, hl, hb, hW => by
    have := hW [] x3 x4 x5 s rfl (fun _ h => by cases h) hb
    rw [List.map_nil, List.append_nil] at this
    exact this
  | v :: vs, done, x3, x4, x5, s, W, hl, hb, hW => by
    rw [List.length_cons] at hl hb
    refine ⟨[(3, .str v)], rfl, [], rfl, rfl, number_ok (n := n + 2 * vs.length + 1) (hb.le (by omega)) fun a s1 ha hb1 => ⟨[], rfl, rfl, number_ok hb1 fun b s2 hb' hb2 => ⟨a, b, rfl, ?_⟩⟩⟩
    have haX : a ∈ numsX := List.mem_cons_of_mem _ ha
    have hbX : b ∈ numsX := List.mem_cons_of_mem _ hb'
    -- behind the swap: lo, hi of the menu
    have fin : ∀ lo hi : PyData, lo ∈ numsX → hi ∈ numsX →
        nApp 2 (nL (rIf (tVal (rCall 2 m__law_less (aCons (rVar 4) (aCons (rVar 5) aNil)))) (rA mkTup (aCons (rVar 3) (aCons (rVar 4) (aCons (rVar 5) aNil)))) (rA mkTup (aCons (rVar 3) (aCons (rC (.int 0)) (aCons (rC (.int 9)) aNil))))))
          [none, some (.vl pd), some (.ow done), some (.vl (.str v)), some (.vl lo), some (.vl hi)] s2 (fun fl s1 => match fl with
            | .nx ρ' => forN (gN 3) bodyB (vs.map .str) ρ' s1 W
            | .ct ρ' => forN (gN 3) bodyB (vs.map .str) ρ' s1 W
            | .bk ρ' => W (.nx ρ') s1
            | .rt d => W (.rt d) s1) := fun lo hi h1 h2 => by
      have key : ∃ bx : Bx, bx.v = v ∧ BxOk bx ∧ rIf (tVal (rCall 2 m__law_less (aCons (rVar 4) (aCons (rVar 5) aNil)))) (rA mkTup (aCons (rVar 3) (aCons (rVar 4) (aCons (rVar 5) aNil)))) (rA mkTup (aCons (rVar 3) (aCons (rC (.int 0)) (aCons (rC (.int 9)) aNil)))) [none, some (.vl pd), some (.ow done), some (.vl (.str v)), some (.vl lo), some (.vl hi)] = some (bxD bx) := by
        unfold rIf
        rw [tlam (a := lo) (b := hi) rfl rfl h1 h2]
        cases q : lessB lo hi with
        | true => exact ⟨⟨v, lo, hi⟩, rfl, ⟨h1, h2, q⟩, rfl⟩
        | false => exact ⟨⟨v, .int 0, .int 9⟩, rfl, ⟨List.mem_cons_of_mem _ (List.mem_cons_self ..), List.mem_cons_self .., less09⟩, rfl⟩
      obtain ⟨bx, e1, e2, e3⟩ := key
      refine ⟨done, rfl, _, e3, by omega, ?_⟩
      refine boxloop vs (done ++ [bxD bx]) _ _ _ s2 W (by rw [List.length_append, List.length_singleton]; omega) hb2 fun bs y3 y4 y5 s' g1 g2 g3 => ?_
      have := hW (bx :: bs) y3 y4 y5 s' (by rw [List.map_cons, e1, g1]) (fun z hz => by
        rcases List.mem_cons.mp hz with rfl | hz
        · exact e2
        · exact g2 z hz) g3
      rw [List.map_cons, List.append_cons] at this
      exact this
    refine ⟨_, tNot_ok (tlam (i := 4) (j := 5) rfl rfl haX hbX), ifs (fun hq => ?_) (fun hq => ?_)⟩
    · exact ⟨[b, a], rfl, b, a, rfl, fin b a hbX haX⟩
    · exact fin a b haX hbX
theorem box_ok {n : Nat} {p : PrG} {s : Dk} {W : PyData → Dk → Prop} (hp : p.Ok) (hb : Bud (n + 6) s) (hW : ∀ (bs : List Bx) (s' : Dk), bs.map Bx.v = p.vars → (∀ b ∈ bs, BxOk b) → Bud n s' → W (.tuple (bs.map bxD)) s') : m__law_box [p.data] s W := by
  have l3 := vars_len hp.v
  refine ⟨[], rfl, by decide, p.vars.map .str, rfl, boxloop p.vars [] none none none s _ (by show 0 + _ ≤ _; omega) (hb.le (by omega)) fun bs x3 x4 x5 s' h1 h2 h3 => ⟨_, rfl, hW bs s' h1 h2 h3⟩⟩
end K73

set_option maxHeartbeats 2000000
namespace K73
open PySem PySem.Spec PyProof.Rows L2 Pd
theorem lcD_none {step : PyData → Option (Option PyData)} : ∀ {xs : List PyData}, (∀ x ∈ xs, step x = some none) → lcD step xs = some []
  | [], _ => rfl
  | x :: xs, q => by
    show (match step x with
      | some (some y) => (lcD step xs).map fun ys => y :: ys
      | some none => lcD step xs
      | none => none) = _
    rw [q x (List.mem_cons_self ..)]
    exact lcD_none fun y hy => q y (List.mem_cons_of_mem _ hy)
theorem zip_self : ∀ xs : List PyData, zipD xs xs = xs.map fun x => .tuple [x, x]
  | [] => rfl
  | x :: xs => by
    show PyData.tuple [x, x] :: zipD xs xs = _
    rw [zip_self xs]
    rfl
theorem sSeq_nx {a b : B1} {ρ ρ' : Sl} (h : a ρ = some (.nx ρ')) : sSeq a b ρ = b ρ' := by
  unfold sSeq
  rw [h]
theorem sSeq_rt {a b : B1} {ρ : Sl} {d : PyData} (h : a ρ = some (.rt d)) : sSeq a b ρ = some (.rt d) := by
  unfold sSeq
  rw [h]
theorem sIf_t {t : T1} {a b : B1} {ρ : Sl} (h : t ρ = some true) : sIf t a b ρ = a ρ := by
  unfold sIf
  rw [h]
theorem sIf_f {t : T1} {a b : B1} {ρ : Sl} (h : t ρ = some false) : sIf t a b ρ = b ρ := by
  unfold sIf
  rw [h]
theorem sIf_nx {t : T1} {a : B1} {ρ : Sl} (h : t ρ = some false) : sIf t a sNext ρ = some (.nx ρ) := sIf_f h
theorem sRet_ok {r : E1} {ρ : Sl} {d : PyData} (h : r ρ = some d) : sRet r ρ = some (.rt d) := by
  unfold sRet
  rw [h]
  rfl
theorem sAsg_ok {g : TgD} {r : E1} {ρ : Sl} {d : PyData} {l : List (Nat × PyData)} (h : r ρ = some d) (hg : g d = some l) : sAsg g r ρ = some (.nx (setD ρ l)) := by
  unfold sAsg
  rw [h]
  show (g d).map _ = _
  rw [hg]
  rfl
theorem tVal_of {a : E1} {ρ : Sl} {b : Bool} (h : a ρ = some (.bool b)) : tVal a ρ = some b := by
  unfold tVal
  rw [h]
  rfl
theorem rCall_ok {n : Nat} {m : List PyData → Option PyData} {a : A1} {ρ : Sl} {ds : List PyData} {d : PyData} (ha : a ρ = some ds) (hl : ds.length = n) (h : m ds = some d) : rCall n m a ρ = some d := by
  unfold rCall
  rw [ha]
  show (if ds.length = n then m ds else none) = _
  rw [if_pos hl, h]
theorem rAnd_t {a b : E1} {ρ : Sl} {x : PyData} (ha : a ρ = some (.bool true)) (hb : b ρ = some x) : rAnd a b ρ = some x := by
  unfold rAnd
  rw [ha]
  exact hb
theorem rOr_f {a b : E1} {ρ : Sl} {x : PyData} (ha : a ρ = some (.bool false)) (hb : b ρ = some x) : rOr a b ρ = some x := by
  unfold rOr
  rw [ha]
  exact hb
theorem rIf_t {t : T1} {a b : E1} {ρ : Sl} {x : PyData} (ht : t ρ = some true) (ha : a ρ = some x) : rIf t a b ρ = some x := by
  unfold rIf
  rw [ht]
  exact ha
theorem rIf_f {t : T1} {a b : E1} {ρ : Sl} {x : PyData} (ht : t ρ = some false) (hb : b ρ = some x) : rIf t a b ρ = some x := by
  unfold rIf
  rw [ht]
  exact hb
theorem runB_rt {n : Nat} {b : B1} {ds : List PyData} {d : PyData} (h : b (startD n ds) = some (.rt d)) : runB n b ds = some d := by
  unfold runB
  rw [h]
theorem isT (ds : List PyData) : isB "tuple" (.tuple ds) = true := by rfl
theorem isL (ds : List PyData) : isB "list" (.list ds) = true := by rfl
theorem isTL (ds : List PyData) : isB "tuple" (.list ds) = false := by rfl
theorem fEq_int (i : Int) : fEq (.int i) (.int i) = some (.bool true) := by
  show some (PyData.bool (decide (i = i))) = _
  rw [decide_eq_true rfl]
theorem fEq_str (x : Str) : fEq (.str x) (.str x) = some (.bool true) := by
  show some (PyData.bool (decide (x = x))) = _
  rw [decide_eq_true rfl]
theorem fEq_bool (x : Bool) : fEq (.bool x) (.bool x) = some (.bool true) := by
  show some (PyData.bool (decide (x = x))) = _
  rw [decide_eq_true rfl]
theorem fNe_bool (x : Bool) : fNe (.bool x) (.bool x) = some (.bool false) := by
  show some (PyData.bool (!decide (x = x))) = _
  rw [decide_eq_true rfl]
  rfl
theorem fEq_nil : fEq (.list []) (.list []) = some (.bool true) := isO_ok (by decide +kernel)
theorem small_of {x : PyData} : ∀ {xs : List PyData}, smallAll xs = true → x ∈ xs → smallD x = true
  | [], _, h => by cases h
  | y :: ys, h, hx => by
    simp only [smallAll, Bool.and_eq_true] at h
    rcases List.mem_cons.mp hx with rfl | hx
    · exact h.1
    · exact small_of h.2 hx
theorem depth_of {x : PyData} : ∀ {xs : List PyData}, x ∈ xs → x.depth ≤ PyData.depthAll xs
  | [], h => by cases h
  | y :: ys, hx => by
    simp only [PyData.depthAll]
    rcases List.mem_cons.mp hx with rfl | hx
    · exact Nat.le_max_left ..
    · exact Nat.le_trans (depth_of hx) (Nat.le_max_right ..)
theorem same_seq {n : Nat} {xs : List PyData} {d : PyData} (hl : xs.length ≤ 1000) (ih : ∀ x ∈ xs, m__law_same n [x, x] = some (.bool true)) (hd : d = .tuple xs ∨ d = .list xs) : m__law_same (n + 1) [d, d] = some (.bool true) := by
  have hz : aZip (aCons (rVar 0) (aCons (rVar 1) aNil)) [some (.vl d), some (.vl d), none, none] = some (xs.map fun x => .tuple [x, x]) := by
    rw [← zip_self]
    rcases hd with rfl | rfl <;> rfl
  have hlc : rLc (aZip (aCons (rVar 0) (aCons (rVar 1) aNil))) (gT [2, 3]) (tNotD (tVal (rCall 2 (m__law_same n) (aCons (rVar 2) (aCons (rVar 3) aNil))))) (rC (.int 1)) [2, 3] [some (.vl d), some (.vl d), none, none] = some (.list []) := by
    unfold rLc
    rw [hz]
    show (if (xs.map fun x => PyData.tuple [x, x]).length ≤ 16000000 then (lcD _ _).map PyData.list else none) = _
    rw [if_pos (by rw [List.length_map]; omega), lcD_none fun y hy => ?_]
    · rfl
    · obtain ⟨x, hx, rfl⟩ := List.mem_map.mp hy
      have ht : tNotD (tVal (rCall 2 (m__law_same n) (aCons (rVar 2) (aCons (rVar 3) aNil)))) [some (.vl d), some (.vl d), some (.vl x), some (.vl x)] = some false := tNot_ok (x := true) (tVal_of (rCall_ok (ds := [x, x]) rfl rfl (ih x hx)))
      unfold lcStep
      show (match tNotD (tVal (rCall 2 (m__law_same n) (aCons (rVar 2) (aCons (rVar 3) aNil)))) [some (.vl d), some (.vl d), some (.vl x), some (.vl x)] with
        | some true => _
        | some false => some none
        | none => none) = some none
      rw [ht]
  have hlen : rE2 fEq (rA fLen (aCons (rVar 0) aNil)) (rA fLen (aCons (rVar 1) aNil)) [some (.vl d), some (.vl d), none, none] = some (.bool true) := by
    rcases hd with rfl | rfl
    · exact e2_ok (x := .int xs.length) (y := .int xs.length) rfl rfl (fEq_int _)
    · exact e2_ok (x := .int xs.length) (y := .int xs.length) rfl rfl (fEq_int _)
  have hi : (isB "tuple" d || isB "list" d) = true := by
    rcases hd with rfl | rfl
    · rw [isT]; rfl
    · rw [isTL, isL]; rfl
  have hv : ∀ i, i = 0 ∨ i = 1 → rE1 (fIsi2 "tuple" "list") (rVar i) [some (.vl d), some (.vl d), none, none] = some (.bool true) := fun i h => by
    have e : fIsi2 "tuple" "list" d = some (.bool true) := by
      show some (PyData.bool (isB "tuple" d || isB "list" d)) = _
      rw [hi]
    rcases h with rfl | rfl
    · exact e1_ok (x := d) rfl e
    · exact e1_ok (x := d) rfl e
  refine runB_rt (sSeq_rt ((sIf_t (tVal_of (hv 1 (.inr rfl)))).trans ((sSeq_nx (ρ' := [some (.vl d), some (.vl d), none, none]) (sIf_nx (tOr_ok (x := false) (y := false) (tVal_of (e2_ok (f := fNe) (x := .bool (isB "tuple" d)) (y := .bool (isB "tuple" d)) rfl rfl (fNe_bool _))) (tNot_ok (x := true) (tVal_of (hv 0 (.inl rfl))))))).trans ?_)))
  exact sRet_ok (rAnd_t hlen (e2_ok hlc rfl fEq_nil))
theorem same_ok : ∀ (n : Nat) (d : PyData), smallD d = true → d.depth < n → m__law_same n [d, d] = some (.bool true)
  | 0, _, _, h => by omega
  | n + 1, .tuple xs, hs, h => by
    simp only [smallD, Bool.and_eq_true] at hs
    simp only [PyData.depth] at h
    exact same_seq (Nat.le_of_ble_eq_true hs.1) (fun x hx => same_ok n x (small_of hs.2 hx) (by have := depth_of hx; omega)) (.inl rfl)
  | n + 1, .list xs, hs, h => by
    simp only [smallD, Bool.and_eq_true] at hs
    simp only [PyData.depth] at h
    exact same_seq (Nat.le_of_ble_eq_true hs.1) (fun x hx => same_ok n x (small_of hs.2 hx) (by have := depth_of hx; omega)) (.inr rfl)
  | n + 1, .dict _, hs, _ => by simp [smallD] at hs
  | n + 1, .none, _, _ => rfl
  | n + 1, .bool b, _, _ => by cases b <;> rfl
  | n + 1, .int i, _, _ => by
    refine runB_rt ((sSeq_nx (ρ' := [some (.vl (.int i)), some (.vl (.int i)), none, none]) rfl).trans ((sSeq_nx (ρ' := [some (.vl (.int i)), some (.vl (.int i)), none, none]) rfl).trans ((sSeq_nx (ρ' := [some (.vl (.int i)), some (.vl (.int i)), none, none]) rfl).trans (sRet_ok (rAnd_t rfl (rAnd_t rfl (e2_ok rfl rfl (fEq_int i))))))))
  | n + 1, .str x, _, _ => by
    refine runB_rt ((sSeq_nx (ρ' := [some (.vl (.str x)), some (.vl (.str x)), none, none]) rfl).trans ((sSeq_nx (ρ' := [some (.vl (.str x)), some (.vl (.str x)), none, none]) rfl).trans (sSeq_rt (sRet_ok (rAnd_t rfl (e2_ok rfl rfl (fEq_str x)))))))
end K73

set_option maxHeartbeats 2000000
namespace K73
open PySem PySem.Spec PyProof.Rows L2 Pd
theorem strs_of : ∀ ys : List Str, strsOf (ys.map .str) = some ys
  | [] => rfl
  | y :: ys => by
    show (strsOf (ys.map .str)).map _ = _
    rw [strs_of ys]
    rfl
theorem sum_len {L : Nat} : ∀ {ys : List Str}, (∀ y ∈ ys, y.length ≤ L) → (ys.map fun x => x.length).sum ≤ ys.length * L
  | [], _ => Nat.zero_le _
  | y :: ys, h => by
    have h1 := h y (List.mem_cons_self ..)
    have h2 := sum_len fun z hz => h z (List.mem_cons_of_mem _ hz)
    rw [List.map_cons, List.sum_cons, List.length_cons, Nat.add_mul]
    omega
/-- texts that are not long -/
def Short (ys : List Str) : Prop := ys.length ≤ 1000 ∧ ∀ y ∈ ys, y.length ≤ 10000
theorem join_len' {s : Str} {ys : List Str} (h : Short ys) (hs : s.length ≤ 10) : (Txt.join s ys).length ≤ 10010000 := by
  rw [TL.join_eq]
  have := join_len s ys h.2
  have h2 : ys.length * (10000 + s.length) ≤ 1000 * 10010 := Nat.mul_le_mul h.1 (by omega)
  omega
theorem join_ok {s : Str} {ys : List Str} (h : Short ys) (hs : s.length ≤ 10) : fJoin (.str s) (.list (ys.map .str)) = some (.str (Txt.join s ys)) := by
  show (strsOf (ys.map .str)).bind _ = _
  rw [strs_of]
  show (if (ys.map fun x => x.length).sum + ys.length * s.length ≤ 16777216 then _ else _) = _
  rw [if_pos]
  have := sum_len h.2
  have h2 : ys.length * 10000 ≤ 1000 * 10000 := Nat.mul_le_mul h.1 (Nat.le_refl _)
  have h3 : ys.length * s.length ≤ 1000 * 10 := Nat.mul_le_mul h.1 hs
  omega
theorem split_ok {s : Str} {c : Nat} {S : List Nat} {ys : List Str} (es : TL.tl s = c :: S) (hk : s.cps.all (· < 256) = true) (h : Short ys) (hs : s.length ≤ 10) (hne : ys ≠ []) (hc : ∀ y ∈ ys, c ∉ TL.tl y) :
    fSplit (.str (Txt.join s ys)) (.str s) = some (.list (ys.map .str)) := by
  show (if (!(s.length == 0) && decide ((Txt.join s ys).length + 2 ≤ 16777216)) = true then _ else _) = _
  have h0 : (s.length == 0) = false := by
    rw [TL.len_tl, es]
    rfl
  have := join_len' h hs
  rw [if_pos (by rw [h0]; exact decide_eq_true (by omega)), TL.split_join es hk hne hc]
theorem part_ok2 {s : Str} {c : Nat} {S : List Nat} {a b : Str} (es : TL.tl s = c :: S) (hs : s.length ≤ 10) (ha : a.length ≤ 10000) (hb : b.length ≤ 10000) (hc : c ∉ TL.tl a) :
    fPart (.str (a ++ s ++ b)) (.str s) = some (.tuple [.str a, .str s, .str b]) := by
  show (if (!(s.length == 0) && decide ((a ++ s ++ b).length ≤ 16777216)) = true then _ else _) = _
  have h0 : (s.length == 0) = false := by
    rw [TL.len_tl, es]
    rfl
  rw [if_pos (by rw [h0, len_app, len_app]; exact decide_eq_true (by omega)), TL.partition_app es hc]
/-! ### names and numbers as texts -/
def nameT (d : PyData) : Str := match m__law_event [d] with
  | some (.str t) => t
  | _ => Str.empty
def numT (d : PyData) : Str := match m__law_shown [d] with
  | some (.str t) => t
  | _ => Str.empty
structure NameF (d : PyData) : Prop where
  ev : m__law_event [d] = some (.str (nameT d))
  sh : m_show_name [d] = some (.str (nameT d))
  rd : m_name_in [.str (nameT d)] = some d
  is : m_is_event_name [d] = some (.bool true)
  sp : 32 ∉ TL.tl (nameT d)
  st : 42 ∉ TL.tl (nameT d)
  ln : (nameT d).length ≤ 40
theorem name_f {d : PyData} (h : d ∈ namesM) : NameF d := by
  have z := names_ok h
  unfold okName at z
  cases q : m__law_event [d] with
  | none => rw [q] at z; cases z
  | some x =>
    rw [q] at z
    cases x with
    | str t =>
      have z' : (isO (m_show_name [d]) (.str t) && (isO (m_name_in [.str t]) d && (isO (m_is_event_name [d]) (.bool true) && (t.cps.toList.all (fun c => c != 32 && c != 42) && Nat.ble t.length 40)))) = true := z
      simp only [Bool.and_eq_true] at z'
      obtain ⟨z1, z2, z3, z4, z5⟩ := z'
      have e : nameT d = t := by unfold nameT; rw [q]
      have h4 := List.all_eq_true.mp z4
      refine ⟨by rw [e]; exact q, by rw [e]; exact isO_ok z1, by rw [e]; exact isO_ok z2, isO_ok z3, fun hm => ?_, fun hm => ?_, by rw [e]; exact Nat.le_of_ble_eq_true z5⟩
      · rw [e] at hm
        have := h4 32 hm
        simp at this
      · rw [e] at hm
        have := h4 42 hm
        simp at this
    | _ => cases z
structure NumF (d : PyData) : Prop where
  tx : m__law_shown [d] = some (.str (numT d))
  sh : m_show_number [d] = some (.str (numT d))
  rd : m_number_in [.str (numT d)] = some d
  is : m_is_number [d] = some (.bool true)
  no : ∀ c ∈ [32, 42, 44, 58, 59], c ∉ TL.tl (numT d)
  ln : (numT d).length ≤ 40
  l1 : 1 ≤ (numT d).length
theorem num_f {d : PyData} (h : d ∈ numsX) : NumF d := by
  have z := numsX_ok h
  unfold okNum at z
  cases q : m__law_shown [d] with
  | none => rw [q] at z; cases z
  | some x =>
    rw [q] at z
    cases x with
    | str t =>
      have z' : (isO (m_show_number [d]) (.str t) && (isO (m_number_in [.str t]) d && (isO (m_is_number [d]) (.bool true) && (t.cps.toList.all (fun c => c != 32 && (c != 42 && (c != 44 && (c != 58 && c != 59)))) && (Nat.ble t.length 40 && Nat.ble 1 t.length))))) = true := z
      simp only [Bool.and_eq_true] at z'
      obtain ⟨z1, z2, z3, z4, z5, z6⟩ := z'
      have e : numT d = t := by unfold numT; rw [q]
      have h4 := List.all_eq_true.mp z4
      refine ⟨by rw [e]; exact q, by rw [e]; exact isO_ok z1, by rw [e]; exact isO_ok z2, isO_ok z3, fun c hc hm => ?_, by rw [e]; exact Nat.le_of_ble_eq_true z5, by rw [e]; exact Nat.le_of_ble_eq_true z6⟩
      rw [e] at hm
      have := h4 c hm
      simp only [List.mem_cons, List.not_mem_nil, or_false] at hc
      rcases hc with rfl | rfl | rfl | rfl | rfl <;> simp at this
    | _ => cases z
theorem must_ok : m_must [.bool true] = some .none := rfl
theorem sDrop_ok {r : E1} {ρ : Sl} {d : PyData} (h : r ρ = some d) : sDrop r ρ = some (.nx ρ) := by
  unfold sDrop
  rw [h]
  rfl
/-- must(e), then the rest -/
theorem sMust {e : E1} {b : B1} {ρ : Sl} (h : e ρ = some (.bool true)) : sSeq (sDrop (rCall 1 m_must (aCons e aNil))) b ρ = b ρ := sSeq_nx (sDrop_ok (rCall_ok (ds := [.bool true]) (aC_ok h rfl) rfl must_ok))
end K73

set_option maxHeartbeats 2000000
namespace K73
open PySem PySem.Spec PyProof.Rows L2 Pd
theorem cut1 (x : PyData) (ns : List PyData) : Pd.cutD (x :: ns) (some 1) none = ns := by
  unfold Pd.cutD
  have e1 : HT.sIx (x :: ns).length 0 (some 1) = 1 := by
    rw [show (some (1 : Int)) = some ((1 : Nat) : Int) from rfl, HT.sIx_nat, List.length_cons]
    omega
  rw [e1]
  show List.take ((x :: ns).length - 1) ns = ns
  exact List.take_of_length_le (by rw [List.length_cons]; omega)
theorem tl_sp : TL.tl (" " : Str) = 32 :: [] := by decide +kernel
theorem all_sp : (" " : Str).cps.all (· < 256) = true := by decide +kernel
theorem len_sp : (" " : Str).length ≤ 10 := by decide +kernel
theorem short_cons {x : Str} {ys : List Str} {n : Nat} (hx : x.length ≤ 10000) (hy : ∀ y ∈ ys, y.length ≤ 10000) (hn : ys.length < 1000) : Short (x :: ys) := ⟨hn, fun y h => by
  rcases List.mem_cons.mp h with rfl | h
  · exact hx
  · exact hy y h⟩
def chanM : List Str := ["c", "cc", "all", "ends"]
theorem chans_in {cs : List Str} (h : cs ∈ chansMenu) : ∀ c ∈ cs, c ∈ chanM := by
  have : ∀ cs ∈ chansMenu, ∀ c ∈ cs, c ∈ chanM := by decide +kernel
  exact this cs h
theorem chan0 : chanM.all (fun c => isO (m_is_name [.str c]) (.bool true) && (c.cps.toList.all (fun k => k != 32 && k != 59) && Nat.ble c.length 10)) = true := by decide +kernel
theorem chan_f {c : Str} (h : c ∈ chanM) : m_is_name [.str c] = some (.bool true) ∧ 32 ∉ TL.tl c ∧ 59 ∉ TL.tl c ∧ c.length ≤ 10 := by
  have z := List.all_eq_true.mp chan0 c h
  simp only [Bool.and_eq_true] at z
  obtain ⟨z1, z2, z3⟩ := z
  have h2 := List.all_eq_true.mp z2
  exact ⟨isO_ok z1, fun hm => by have := h2 32 hm; simp at this, fun hm => by have := h2 59 hm; simp at this, Nat.le_of_ble_eq_true z3⟩
theorem chan_in0 : (chansMenu.all fun cs => cs.all fun c => isO (fIn false (.str c) (tupS cs)) (.bool true) && isO (fIn true (.str c) (tupS cs)) (.bool false)) = true := by decide +kernel
theorem chan_in {cs : List Str} {c : Str} (h : cs ∈ chansMenu) (hc : c ∈ cs) : fIn false (.str c) (tupS cs) = some (.bool true) ∧ fIn true (.str c) (tupS cs) = some (.bool false) := by
  have z := List.all_eq_true.mp (List.all_eq_true.mp chan_in0 cs h) c hc
  rw [Bool.and_eq_true] at z
  exact ⟨isO_ok z.1, isO_ok z.2⟩
/-! ### sights of names -/
/-- the word of a sight of names -/
structure SgW (w : Str) (L : Bool) : Prop where
  e1 : fEq (.str w) (.str "emits") = some (.bool false)
  e2 : fEq (.str w) (.str "later") = some (.bool L)
  e3 : fNe (.str w) (.str "emits") = some (.bool true)
  i4 : fIn false (.str w) (.tuple [.str "time", .str "comes", .str "later", .str "emits"]) = some (.bool true)
  i2 : L = false → fIn false (.str w) (.tuple [.str "time", .str "comes"]) = some (.bool true)
  sp : 32 ∉ TL.tl w
  ln : w.length ≤ 10
theorem w_later : SgW "later" true := ⟨isO_ok (by decide +kernel), isO_ok (by decide +kernel), isO_ok (by decide +kernel), isO_ok (by decide +kernel), fun z => (by cases z), by decide +kernel, by decide +kernel⟩
theorem w_time : SgW "time" false := ⟨isO_ok (by decide +kernel), isO_ok (by decide +kernel), isO_ok (by decide +kernel), isO_ok (by decide +kernel), fun _ => isO_ok (by decide +kernel), by decide +kernel, by decide +kernel⟩
theorem w_comes : SgW "comes" false := ⟨isO_ok (by decide +kernel), isO_ok (by decide +kernel), isO_ok (by decide +kernel), isO_ok (by decide +kernel), fun _ => isO_ok (by decide +kernel), by decide +kernel, by decide +kernel⟩
section
variable {w : Str} {L : Bool} {ns : List PyData}
theorem sg_short (hw : SgW w L) (hn : ∀ a ∈ ns, a ∈ namesM) (hl : ns.length ≤ 2) : Short (w :: ns.map nameT) := by
  refine ⟨by rw [List.length_cons, List.length_map]; omega, fun y hy => ?_⟩
  rcases List.mem_cons.mp hy with rfl | hy
  · have := hw.ln; omega
  · obtain ⟨a, ha, rfl⟩ := List.mem_map.mp hy
    have := (name_f (hn a ha)).ln
    omega
theorem sg_words (hw : SgW w L) (hn : ∀ a ∈ ns, a ∈ namesM) : ∀ y ∈ w :: ns.map nameT, 32 ∉ TL.tl y := fun y hy => by
  rcases List.mem_cons.mp hy with rfl | hy
  · exact hw.sp
  · obtain ⟨a, ha, rfl⟩ := List.mem_map.mp hy
    exact (name_f (hn a ha)).sp
def sgText (w : Str) (ns : List PyData) : Str := Txt.join " " (w :: ns.map nameT)
theorem words_map (w : Str) (ns : List PyData) : PyData.str w :: ns.map (fun a => PyData.str (nameT a)) = (w :: ns.map nameT).map .str := by
  rw [List.map_cons, List.map_map]
  rfl
theorem sight_text (hw : SgW w L) (hn : ∀ a ∈ ns, a ∈ namesM) (hl : ns.length ≤ 2) : m__law_sight_text [.tuple (.str w :: ns)] = some (.str (sgText w ns)) := by
  have hx : rE2 fIx (rVar 0) (rC (.int 0)) [some (.vl (.tuple (.str w :: ns))), none] = some (.str w) := e2_ok (x := .tuple (.str w :: ns)) rfl rfl (ix_t (j := 0) rfl)
  have hc : aTup (rCut (rVar 0) (oSome (rC (.int 1))) oNone) [some (.vl (.tuple (.str w :: ns))), none] = some (ns.map id) := by
    show some (Pd.cutD (.str w :: ns) (some 1) none) = _
    rw [cut1, List.map_id]
  have hlc := lc_ok (src := aTup (rCut (rVar 0) (oSome (rC (.int 1))) oNone)) (g := gN 1) (e := rIf (tVal (rE2 fEq (rE2 fIx (rVar 0) (rC (.int 0))) (rC (.str "emits")))) (rVar 1) (rCall 1 m__law_event (aCons (rVar 1) aNil))) (vs := [1]) (xs := ns) (h := id) (f := fun a => .str (nameT a)) hc (by omega) fun a ha => ⟨[(1, a)], rfl, rIf_f (tVal_of (e2_ok (e2_ok (x := .tuple (.str w :: ns)) rfl rfl (ix_t (j := 0) rfl)) rfl hw.e1)) (rCall_ok (ds := [a]) rfl rfl (name_f (hn a ha)).ev)⟩
  refine runB_rt (sRet_ok (e2_ok rfl (e2_ok (x := .list [.str w]) (y := .list (ns.map fun a => .str (nameT a))) (d := .list ((w :: ns.map nameT).map .str)) (rA_ok (aC_ok hx rfl) rfl) hlc ?_) (join_ok (sg_short hw hn hl) len_sp)))
  show (if [PyData.str w].length + (ns.map fun a => PyData.str (nameT a)).length ≤ 16777216 then some (PyData.list ([PyData.str w] ++ ns.map fun a => PyData.str (nameT a))) else none) = _
  rw [if_pos (by rw [List.length_map]; show 1 + _ ≤ _; omega), ← words_map]
  rfl
theorem star_nil (d : PyData) (xs : List PyData) {a : E1} {ρ : Sl} (h : a ρ = some (.list xs)) : aStar a aNil ρ = some xs := by
  unfold aStar
  rw [h]
  show some (xs ++ []) = _
  rw [List.append_nil]
theorem sight_show (hw : SgW w L) (hn : ∀ a ∈ ns, a ∈ namesM) (hl : ns.length ≤ 2) : m_show_sight [.tuple (.str w :: ns)] = some (.str (sgText w ns)) := by
  have hx : rE2 fIx (rVar 0) (rC (.int 0)) [some (.vl (.tuple (.str w :: ns))), none] = some (.str w) := e2_ok (x := .tuple (.str w :: ns)) rfl rfl (ix_t (j := 0) rfl)
  have hc : aTup (rCut (rVar 0) (oSome (rC (.int 1))) oNone) [some (.vl (.tuple (.str w :: ns))), none] = some (ns.map id) := by
    show some (Pd.cutD (.str w :: ns) (some 1) none) = _
    rw [cut1, List.map_id]
  have hlc := lc_ok (src := aTup (rCut (rVar 0) (oSome (rC (.int 1))) oNone)) (g := gN 1) (e := rCall 1 m_show_name (aCons (rVar 1) aNil)) (vs := [1]) (xs := ns) (h := id) (f := fun a => .str (nameT a)) hc (by omega) fun a ha => ⟨[(1, a)], rfl, rCall_ok (ds := [a]) rfl rfl (name_f (hn a ha)).sh⟩
  refine runB_rt ((sSeq_nx (sIf_nx (tVal_of (e2_ok hx rfl hw.e1)))).trans (sRet_ok (e2_ok rfl (rA_ok (d := .list ((w :: ns.map nameT).map .str)) (aC_ok hx (star_nil .none _ hlc)) ?_) (join_ok (sg_short hw hn hl) len_sp))))
  show (if (PyData.str w :: ns.map fun a => PyData.str (nameT a)).length ≤ 16777216 then some (PyData.list (PyData.str w :: ns.map fun a => PyData.str (nameT a))) else none) = _
  rw [if_pos (by rw [List.length_cons, List.length_map]; omega), words_map]
end
end K73

set_option maxHeartbeats 2000000
namespace K73
open PySem PySem.Spec PyProof.Rows L2 Pd
theorem rOr_t {a b : E1} {ρ : Sl} (ha : a ρ = some (.bool true)) : rOr a b ρ = some (.bool true) := by
  unfold rOr
  rw [ha]
theorem is_sight1 {p : PrG} {w : Str} {a : PyData} (hw : SgW w false) (ha : a ∈ namesM) : m_is_sight [p.data, .tuple [.str w, a]] = some (.bool true) := by
  have hx : rE2 fIx (rVar 1) (rC (.int 0)) [some (.vl p.data), some (.vl (.tuple [.str w, a]))] = some (.str w) := rfl
  refine runB_rt ((sSeq_nx (sIf_nx rfl)).trans ((sSeq_nx (sIf_nx (tVal_of (e2_ok hx rfl hw.e1)))).trans ((sSeq_nx (sIf_nx (tVal_of (e2_ok hx rfl hw.e2)))).trans (sRet_ok (rAnd_t (e2_ok hx rfl (hw.i2 rfl)) (rAnd_t rfl (rCall_ok (ds := [a]) rfl rfl (name_f ha).is)))))))
theorem is_sight2 {p : PrG} {w : Str} {a b : PyData} (hw : SgW w true) (ha : a ∈ namesM) (hb : b ∈ namesM) : m_is_sight [p.data, .tuple [.str w, a, b]] = some (.bool true) := by
  have hx : rE2 fIx (rVar 1) (rC (.int 0)) [some (.vl p.data), some (.vl (.tuple [.str w, a, b]))] = some (.str w) := rfl
  refine runB_rt ((sSeq_nx (sIf_nx rfl)).trans ((sSeq_nx (sIf_nx (tVal_of (e2_ok hx rfl hw.e1)))).trans (sSeq_rt ((sIf_t (tVal_of (e2_ok hx rfl hw.e2))).trans (sRet_ok (rAnd_t rfl (rAnd_t (rCall_ok (ds := [a]) rfl rfl (name_f ha).is) (rCall_ok (ds := [b]) rfl rfl (name_f hb).is))))))))
theorem read_sight_n {p : PrG} {w : Str} {L : Bool} {ns : List PyData} (hw : SgW w L) (hn : ∀ a ∈ ns, a ∈ namesM) (hl : ns.length = if L then 2 else 1) (his : m_is_sight [p.data, .tuple (.str w :: ns)] = some (.bool true)) :
    m_read_sight [p.data, .str (sgText w ns)] = some (.tuple (.str w :: ns)) := by
  have hl2 : ns.length ≤ 2 := by rw [hl]; split <;> omega
  have hsp := split_ok tl_sp all_sp (sg_short hw hn hl2) len_sp (by simp) (sg_words hw hn)
  have hs : (w :: ns.map nameT).map PyData.str = .str w :: ns.map fun a => .str (nameT a) := (words_map w ns).symm
  rw [hs] at hsp
  let T : PyData := .str (sgText w ns)
  let WL : List PyData := .str w :: ns.map fun a => .str (nameT a)
  have hx2 : ∀ (x3 x4 x5 : Option Cell), rE2 fIx (rVar 2) (rC (.int 0)) [some (.vl p.data), some (.vl T), some (.vl (.list WL)), x3, x4, x5] = some (.str w) := fun x3 x4 x5 => e2_ok (x := .list WL) rfl rfl (ix_l (j := 0) rfl)
  have hlen : ∀ (x3 x4 x5 : Option Cell), rA fLen (aCons (rVar 2) aNil) [some (.vl p.data), some (.vl T), some (.vl (.list WL)), x3, x4, x5] = some (.int ((ns.length + 1 : Nat) : Int)) := fun x3 x4 x5 => by
    refine rA_ok (xs := [.list WL]) rfl ?_
    show some (PyData.int (WL.length : Nat)) = _
    show some (PyData.int (((ns.map _).length + 1 : Nat) : Int)) = _
    rw [List.length_map]
  have hlen1 : fGt (.int ((ns.length + 1 : Nat) : Int)) (.int 1) = some (.bool true) := by
    show some (PyData.bool (decide ((1 : Int) < ((ns.length + 1 : Nat) : Int)))) = _
    rw [decide_eq_true]
    have : 1 ≤ ns.length := by rw [hl]; split <;> omega
    omega
  have hlen2 : ∀ (x3 x4 x5 : Option Cell), rE2 fEq (rA fLen (aCons (rVar 2) aNil)) (rIf (tVal (rE2 fEq (rE2 fIx (rVar 2) (rC (.int 0))) (rC (.str "later")))) (rC (.int 3)) (rC (.int 2))) [some (.vl p.data), some (.vl T), some (.vl (.list WL)), x3, x4, x5] = some (.bool true) := fun x3 x4 x5 => by
    have h3 : rIf (tVal (rE2 fEq (rE2 fIx (rVar 2) (rC (.int 0))) (rC (.str "later")))) (rC (.int 3)) (rC (.int 2)) [some (.vl p.data), some (.vl T), some (.vl (.list WL)), x3, x4, x5] = some (.int ((ns.length + 1 : Nat) : Int)) := by
      cases L with
      | true =>
        rw [hl]
        exact rIf_t (tVal_of (e2_ok (hx2 x3 x4 x5) rfl hw.e2)) rfl
      | false =>
        rw [hl]
        exact rIf_f (tVal_of (e2_ok (hx2 x3 x4 x5) rfl hw.e2)) rfl
    exact e2_ok (hlen x3 x4 x5) h3 (fEq_int _)
  have hc : ∀ (x3 x4 x5 : Option Cell), aList (rCut (rVar 2) (oSome (rC (.int 1))) oNone) [some (.vl p.data), some (.vl T), some (.vl (.list WL)), x3, x4, x5] = some (ns.map fun a => .str (nameT a)) := fun x3 x4 x5 => by
    show some (Pd.cutD WL (some 1) none) = _
    rw [cut1]
  have hlc : rLc (aList (rCut (rVar 2) (oSome (rC (.int 1))) oNone)) (gN 5) tTrue (rCall 1 m_name_in (aCons (rVar 5) aNil)) [5] [some (.vl p.data), some (.vl T), some (.vl (.list WL)), none, none, none] = some (.list (ns.map id)) :=
    lc_ok (f := id) (hc none none none) (by omega) fun a ha => ⟨[(5, .str (nameT a))], rfl, rCall_ok (ds := [.str (nameT a)]) rfl rfl (name_f (hn a ha)).rd⟩
  rw [List.map_id] at hlc
  refine runB_rt ((sMust rfl).trans ((sSeq_nx (ρ' := [some (.vl p.data), some (.vl T), some (.vl (.list WL)), none, none, none]) (sAsg_ok (l := [(2, .list WL)]) (e2_ok (x := T) rfl rfl hsp) rfl)).trans ?_))
  refine (sMust (rAnd_t (e2_ok (hlen _ _ _) rfl hlen1) (e2_ok (hx2 _ _ _) rfl hw.i4))).trans ((sMust (hlen2 _ _ _)).trans ((sMust (rOr_t (e2_ok (hx2 _ _ _) rfl hw.e3))).trans ?_))
  refine (sSeq_nx (ρ' := [some (.vl p.data), some (.vl T), some (.vl (.list WL)), some (.vl (.list ns)), none, none]) (sAsg_ok (l := [(3, .list ns)]) (rIf_f (tVal_of (e2_ok (hx2 _ _ _) rfl hw.e1)) hlc) rfl)).trans ?_
  have htup : rA mkTup (aCons (rE2 fIx (rVar 2) (rC (.int 0))) (aStar (rVar 3) aNil)) [some (.vl p.data), some (.vl T), some (.vl (.list WL)), some (.vl (.list ns)), none, none] = some (.tuple (.str w :: ns)) := by
    refine rA_ok (aC_ok (hx2 _ _ _) (star_nil .none ns rfl)) ?_
    show (if (PyData.str w :: ns).length ≤ 16777216 then some (PyData.tuple (PyData.str w :: ns)) else none) = _
    rw [if_pos (by rw [List.length_cons]; omega)]
  refine (sSeq_nx (ρ' := [some (.vl p.data), some (.vl T), some (.vl (.list WL)), some (.vl (.list ns)), some (.vl (.tuple (.str w :: ns))), none]) (sAsg_ok (l := [(4, .tuple (.str w :: ns))]) htup rfl)).trans ?_
  exact (sSeq_nx (sIf_nx (tNot_ok (x := true) (tVal_of (rCall_ok (ds := [p.data, .tuple (.str w :: ns)]) rfl rfl his))))).trans (sRet_ok rfl)
/-! ### emits -/
def emT (c : Str) : Str := Txt.join " " ["emits", c]
theorem emit0 : chanM.all (fun c => isO (m__law_sight_text [.tuple [.str "emits", .str c]]) (.str (emT c)) && (isO (m_show_sight [.tuple [.str "emits", .str c]]) (.str (emT c)) && isO (fSplit (.str (emT c)) (.str " ")) (.list [.str "emits", .str c]))) = true := by decide +kernel
theorem is_sightE {p : PrG} {c : Str} (hp : p.Ok) (hc : c ∈ p.chans) : m_is_sight [p.data, .tuple [.str "emits", .str c]] = some (.bool true) := by
  have h0 : fEq (.str "emits") (.str "emits") = some (.bool true) := fEq_str _
  refine runB_rt ((sSeq_nx (sIf_nx rfl)).trans (sSeq_rt ((sIf_t (tVal_of (e2_ok (x := .str "emits") rfl rfl h0))).trans (sRet_ok (rAnd_t rfl (rAnd_t rfl (e2_ok (x := .str c) (y := tupS p.chans) rfl rfl (chan_in hp.c hc).1)))))))
theorem read_sightE {p : PrG} {c : Str} (hp : p.Ok) (hc : c ∈ p.chans) : m_read_sight [p.data, .str (emT c)] = some (.tuple [.str "emits", .str c]) := by
  have hm := chans_in hp.c c hc
  have z := List.all_eq_true.mp emit0 c hm
  simp only [Bool.and_eq_true] at z
  have hsp := isO_ok z.2.2
  have h0 : fEq (.str "emits") (.str "emits") = some (.bool true) := fEq_str _
  have h1 : fNe (.str "emits") (.str "emits") = some (.bool false) := isO_ok (by decide +kernel)
  have h2 : fEq (.str "emits") (.str "later") = some (.bool false) := isO_ok (by decide +kernel)
  have h4 : fIn false (.str "emits") (.tuple [.str "time", .str "comes", .str "later", .str "emits"]) = some (.bool true) := isO_ok (by decide +kernel)
  let T : PyData := .str (emT c)
  let WL : List PyData := [.str "emits", .str c]
  refine runB_rt ((sMust rfl).trans ((sSeq_nx (ρ' := [some (.vl p.data), some (.vl T), some (.vl (.list WL)), none, none, none]) (sAsg_ok (l := [(2, .list WL)]) (e2_ok (x := T) rfl rfl hsp) rfl)).trans ?_))
  refine (sMust (rAnd_t rfl (e2_ok (x := .str "emits") rfl rfl h4))).trans ((sMust (e2_ok (x := .int 2) (y := .int 2) rfl (rIf_f (tVal_of (e2_ok (x := .str "emits") rfl rfl h2)) rfl) (fEq_int _))).trans ((sMust (rOr_f (e2_ok (x := .str "emits") rfl rfl h1) (rCall_ok (ds := [.str c]) rfl rfl (chan_f hm).1))).trans ?_))
  refine (sSeq_nx (ρ' := [some (.vl p.data), some (.vl T), some (.vl (.list WL)), some (.vl (.list [.str c])), none, none]) (sAsg_ok (l := [(3, .list [.str c])]) (rIf_t (tVal_of (e2_ok (x := .str "emits") rfl rfl h0)) rfl) rfl)).trans ?_
  refine (sSeq_nx (ρ' := [some (.vl p.data), some (.vl T), some (.vl (.list WL)), some (.vl (.list [.str c])), some (.vl (.tuple WL)), none]) (sAsg_ok (l := [(4, .tuple WL)]) rfl rfl)).trans ?_
  exact (sSeq_nx (sIf_nx (tNot_ok (x := true) (tVal_of (rCall_ok (ds := [p.data, .tuple WL]) rfl rfl (is_sightE hp hc)))))).trans (sRet_ok rfl)
/-! ### all sights -/
structure SightF (p : PrG) (d : PyData) (t : Str) : Prop where
  tx : m__law_sight_text [d] = some (.str t)
  sh : m_show_sight [d] = some (.str t)
  is : m_is_sight [p.data, d] = some (.bool true)
  rd : m_read_sight [p.data, .str t] = some d
  sm : smallD d = true
  dp : d.depth ≤ 5
theorem small_tup {ds : List PyData} (h : ∀ d ∈ ds, smallD d = true) (hl : ds.length ≤ 1000) : smallD (.tuple ds) = true := by
  simp only [smallD, Nat.ble_eq_true_of_le hl, small_all h, Bool.and_self]
theorem depth_tup {ds : List PyData} {k : Nat} (h : ∀ d ∈ ds, d.depth ≤ k) : (PyData.tuple ds).depth ≤ k + 1 := by
  have : ∀ {ds : List PyData}, (∀ d ∈ ds, d.depth ≤ k) → PyData.depthAll ds ≤ k := fun {ds} => by
    induction ds with
    | nil => intro _; simp [PyData.depthAll]
    | cons x xs ih =>
      intro h
      simp only [PyData.depthAll]
      exact Nat.max_le.mpr ⟨h x (List.mem_cons_self ..), ih fun y hy => h y (List.mem_cons_of_mem _ hy)⟩
  simp only [PyData.depth]
  have := this h
  omega
theorem sightN {p : PrG} {w : Str} {L : Bool} {ns : List PyData} (hw : SgW w L) (hn : ∀ a ∈ ns, a ∈ namesM) (hl : ns.length = if L then 2 else 1) (his : m_is_sight [p.data, .tuple (.str w :: ns)] = some (.bool true)) : SightF p (.tuple (.str w :: ns)) (sgText w ns) := by
  have hl2 : ns.length ≤ 2 := by rw [hl]; split <;> omega
  refine ⟨sight_text hw hn hl2, sight_show hw hn hl2, his, read_sight_n hw hn hl his, small_tup (fun d hd => ?_) (by rw [List.length_cons]; omega), Nat.le_trans (depth_tup (k := 2) fun d hd => ?_) (by decide)⟩
  · rcases List.mem_cons.mp hd with rfl | hd
    · rfl
    · exact (names_nice (hn d hd)).sm
  · rcases List.mem_cons.mp hd with rfl | hd
    · simp [PyData.depth]
    · exact (names_nice (hn d hd)).dp
theorem sight_f {p : PrG} {sg : Sg} (hp : p.Ok) (h : SOk p sg) : ∃ t, SightF p sg.data t := by
  cases sg with
  | emits c =>
    have hm := chans_in hp.c c h
    have z := List.all_eq_true.mp emit0 c hm
    simp only [Bool.and_eq_true] at z
    exact ⟨emT c, isO_ok z.1, isO_ok z.2.1, is_sightE hp h, read_sightE hp h, rfl, Nat.le_trans (depth_tup (k := 0) fun d hd => by
      simp only [List.mem_cons, List.not_mem_nil, or_false] at hd
      rcases hd with rfl | rfl <;> simp [PyData.depth]) (by decide)⟩
  | later a b =>
    obtain ⟨ha, hb⟩ := h
    exact ⟨_, sightN (ns := [a, b]) w_later (fun x hx => by
      simp only [List.mem_cons, List.not_mem_nil, or_false] at hx
      rcases hx with rfl | rfl
      · exact ha
      · exact hb) rfl (is_sight2 w_later ha hb)⟩
  | one w a =>
    obtain ⟨hw, ha⟩ := h
    have hw' : SgW w false := by
      rcases hw with rfl | rfl
      · exact w_time
      · exact w_comes
    exact ⟨_, sightN (ns := [a]) hw' (fun x hx => by rw [List.mem_singleton.mp hx]; exact ha) rfl (is_sight1 hw' ha)⟩
end K73

set_option maxHeartbeats 2000000
namespace K73
open PySem PySem.Spec PyProof.Rows L2 Pd
theorem bools_t {α : Type} : ∀ xs : List α, boolsOf (xs.map fun _ => .bool true) = some (xs.map fun _ => true)
  | [] => rfl
  | x :: xs => by
    show (boolsOf (xs.map fun _ => .bool true)).map _ = _
    rw [bools_t xs]
    rfl
theorem all_t {α : Type} (xs : List α) : fAll [.list (xs.map fun _ => .bool true)] = some (.bool true) := by
  show (boolsOf (xs.map fun _ => PyData.bool true)).map _ = _
  rw [bools_t]
  show some (PyData.bool ((xs.map fun _ => true).all id)) = _
  congr 2
  rw [List.all_map]
  exact List.all_eq_true.mpr fun _ _ => rfl
theorem tl_st : TL.tl ("*" : Str) = 42 :: [] := by decide +kernel
theorem add_str {x y : Str} (h : x.length + y.length ≤ 16777216) : fAdd (.str x) (.str y) = some (.str (x ++ y)) := by
  show (none : Option PyData).or ((if x.length + y.length ≤ 16777216 then some (PyData.str (x ++ y)) else none).or _) = _
  rw [if_pos h]
  rfl
def itemT (p : Nm × PyData) : Str := numT p.2 ++ "*" ++ nameT (nmD p.1)
def msT (xs : List (Nm × PyData)) : Str := Txt.join " " (xs.map itemT)
section
variable {xs : List (Nm × PyData)}
theorem ms_num (h : MsOk xs) {p : Nm × PyData} (hp : p ∈ xs) : NumF p.2 := num_f (List.mem_cons_of_mem _ (h.nu p hp).1)
theorem ms_name (h : MsOk xs) {p : Nm × PyData} (hp : p ∈ xs) : NameF (nmD p.1) := name_f (h.nm p hp)
theorem len_st : ("*" : Str).length = 1 := by decide +kernel
theorem item_len (h : MsOk xs) {p : Nm × PyData} (hp : p ∈ xs) : (itemT p).length ≤ 100 := by
  unfold itemT
  rw [len_app, len_app, len_st]
  have := (ms_num h hp).ln
  have := (ms_name h hp).ln
  omega
theorem ms_short (h : MsOk xs) : Short (xs.map itemT) := by
  refine ⟨by rw [List.length_map]; have := h.l4; omega, fun y hy => ?_⟩
  obtain ⟨p, hp, rfl⟩ := List.mem_map.mp hy
  have := item_len h hp
  omega
theorem ms_free (h : MsOk xs) : ∀ y ∈ xs.map itemT, 32 ∉ TL.tl y := fun y hy => by
  obtain ⟨p, hp, rfl⟩ := List.mem_map.mp hy
  unfold itemT
  rw [TL.tl_append, TL.tl_append, tl_st]
  intro hm
  rcases List.mem_append.mp hm with hm | hm
  · rcases List.mem_append.mp hm with hm | hm
    · exact (ms_num h hp).no 32 (by decide) hm
    · simp at hm
  · exact (ms_name h hp).sp hm
theorem item_ev {f g : List PyData → Option PyData} {ρ : Sl} {i j : Nat} {p : Nm × PyData} (h : MsOk xs) (hp : p ∈ xs) (hf : f [p.2] = some (.str (numT p.2))) (hg : g [nmD p.1] = some (.str (nameT (nmD p.1)))) (hi : rVar i ρ = some p.2) (hj : rVar j ρ = some (nmD p.1)) :
    rE2 fAdd (rE2 fAdd (rCall 1 f (aCons (rVar i) aNil)) (rC (.str "*"))) (rCall 1 g (aCons (rVar j) aNil)) ρ = some (.str (itemT p)) := by
  have h1 := (ms_num h hp).ln
  have h2 := (ms_name h hp).ln
  refine e2_ok (e2_ok (rCall_ok (aC_ok hi rfl) rfl hf) rfl (add_str (by rw [len_st]; omega))) (rCall_ok (aC_ok hj rfl) rfl hg) (add_str ?_)
  rw [len_app, len_st]
  omega
theorem ms_map (f : Nm × PyData → Str) : (xs.map f).map PyData.str = xs.map fun p => .str (f p) := by
  rw [List.map_map]
  rfl
theorem measure_text (h : MsOk xs) : m__law_measure_text [msD xs] = some (.str (msT xs)) := by
  have hlc := lc_ok (src := aTup (rVar 0)) (g := gT [1, 2]) (e := rE2 fAdd (rE2 fAdd (rCall 1 m__law_shown (aCons (rVar 2) aNil)) (rC (.str "*"))) (rCall 1 m__law_event (aCons (rVar 1) aNil))) (vs := [1, 2]) (ρ := [some (.vl (msD xs)), none, none]) (xs := xs) (h := fun (p : Nm × PyData) => .tuple [nmD p.1, p.2]) (f := fun p => .str (itemT p)) rfl (by have := h.l4; omega) fun p hp => ⟨[(1, nmD p.1), (2, p.2)], rfl, item_ev h hp (ms_num h hp).tx (ms_name h hp).ev rfl rfl⟩
  rw [← ms_map] at hlc
  exact runB_rt (sRet_ok (e2_ok rfl hlc (join_ok (ms_short h) len_sp)))
theorem measure_show (h : MsOk xs) : m_show_measure [msD xs] = some (.str (msT xs)) := by
  have hlc := lc_ok (src := aTup (rVar 0)) (g := gT [1, 2]) (e := rE2 fAdd (rE2 fAdd (rCall 1 m_show_number (aCons (rVar 2) aNil)) (rC (.str "*"))) (rCall 1 m_show_name (aCons (rVar 1) aNil))) (vs := [1, 2]) (ρ := [some (.vl (msD xs)), none, none]) (xs := xs) (h := fun (p : Nm × PyData) => .tuple [nmD p.1, p.2]) (f := fun p => .str (itemT p)) rfl (by have := h.l4; omega) fun p hp => ⟨[(1, nmD p.1), (2, p.2)], rfl, item_ev h hp (ms_num h hp).sh (ms_name h hp).sh rfl rfl⟩
  rw [← ms_map] at hlc
  exact runB_rt (sRet_ok (e2_ok rfl hlc (join_ok (ms_short h) len_sp)))
def adj : List (Nm × PyData) → List (Nm × Nm)
  | a :: b :: r => (a.1, b.1) :: adj (b :: r)
  | _ => []
theorem zip_adj : ∀ (a : Nm × PyData) (r : List (Nm × PyData)), zipD ((a :: r).map fun p => nmD p.1) (r.map fun p => nmD p.1) = (adj (a :: r)).map fun q => .tuple [nmD q.1, nmD q.2]
  | a, [] => rfl
  | a, b :: r => by
    show PyData.tuple [nmD a.1, nmD b.1] :: zipD ((b :: r).map fun p => nmD p.1) (r.map fun p => nmD p.1) = _
    rw [zip_adj b r]
    rfl
theorem adj_lt : ∀ {xs : List (Nm × PyData)}, Asc xs → ∀ q ∈ adj xs, PySem.W.dataLt (nmD q.1) (nmD q.2) = true
  | [], _, _, h => by cases h
  | [_], _, _, h => by cases h
  | a :: b :: r, hA, q, h => by
    rcases List.mem_cons.mp h with rfl | h
    · exact hA.1
    · exact adj_lt hA.2 q h
theorem adj_len : ∀ xs : List (Nm × PyData), (adj xs).length ≤ xs.length
  | [] => Nat.zero_le _
  | [_] => Nat.zero_le _
  | a :: b :: r => by
    show (adj (b :: r)).length + 1 ≤ (b :: r).length + 1
    exact Nat.succ_le_succ (adj_len (b :: r))
theorem nm_depth (n : Nm) : (nmD n).depth ≤ 2 := by
  have : ∀ l : List Int, PyData.depthAll (l.map .int) = 0 := PySem.W.depth_ints
  unfold nmD
  simp [PyData.depth, PyData.depthAll, this]
theorem ltD_ok {a b : Nm} (h : PySem.W.dataLt (nmD a) (nmD b) = true) : fLtD (nmD a) (nmD b) = some (.bool true) := by
  unfold fLtD
  have h1 : decide ((nmD a).depth ≤ 60) = true := decide_eq_true (Nat.le_trans (nm_depth a) (by decide))
  rw [if_pos (by rw [nm_alike, h1]; rfl), h]
theorem pairs_ok (xs : List (Nm × PyData)) (hl : xs.length ≤ 4) : m_are_pairs [msD xs] = some (.bool true) := by
  have hlc := lc_ok (src := aTup (rVar 0)) (g := gN 1) (e := rAnd (rE1 (fIsi "tuple") (rVar 1)) (rE2 fEq (rA fLen (aCons (rVar 1) aNil)) (rC (.int 2)))) (vs := [1]) (ρ := [some (.vl (msD xs)), none]) (xs := xs) (h := fun (p : Nm × PyData) => .tuple [nmD p.1, p.2]) (f := fun _ => .bool true) rfl (by omega) fun p hp => ⟨[(1, .tuple [nmD p.1, p.2])], rfl, rAnd_t rfl rfl⟩
  exact runB_rt (sRet_ok (rAnd_t rfl (rA_ok (aC_ok hlc rfl) (all_t xs))))
theorem measure_is (h : MsOk xs) : m_is_measure [msD xs] = some (.bool true) := by
  obtain ⟨a, r, rfl⟩ : ∃ a r, xs = a :: r := by
    cases xs with
    | nil => exact absurd h.l1 (by decide)
    | cons a r => exact ⟨a, r, rfl⟩
  have h4 := h.l4
  have hl1 := lc_ok (src := aTup (rVar 0)) (g := gT [2, 3]) (e := rAnd (rCall 1 m_is_event_name (aCons (rVar 2) aNil)) (rAnd (rCall 1 m_is_number (aCons (rVar 3) aNil)) (rE2 fNe (rVar 3) (rC (.int 0))))) (vs := [2, 3]) (ρ := [some (.vl (msD (a :: r))), none, none, none, none, none]) (xs := a :: r) (h := fun (p : Nm × PyData) => .tuple [nmD p.1, p.2]) (f := fun _ => .bool true) rfl (by omega) fun p hp => ⟨[(2, nmD p.1), (3, p.2)], rfl, by
    obtain ⟨z1, z2⟩ := h.nu p hp
    have z3 := (nz_ok z1).1
    have z4 : eqD p.2 (.int 0) = false := by
      cases q : eqD p.2 (.int 0) with
      | false => rfl
      | true => exact absurd (eqD_ok _ _ q) z2
    rw [z4] at z3
    exact rAnd_t (rCall_ok (ds := [nmD p.1]) rfl rfl (ms_name h hp).is) (rAnd_t (rCall_ok (ds := [p.2]) rfl rfl (ms_num h hp).is) (e2_ok (x := p.2) rfl rfl z3))⟩
  have hl2 := lc_ok (src := aTup (rVar 0)) (g := gT [2, 3]) (e := rVar 2) (vs := [2, 3]) (ρ := [some (.vl (msD (a :: r))), none, none, none, none, none]) (xs := a :: r) (h := fun (p : Nm × PyData) => .tuple [nmD p.1, p.2]) (f := fun (p : Nm × PyData) => nmD p.1) rfl (by omega) fun p hp => ⟨[(2, nmD p.1), (3, p.2)], rfl, rfl⟩
  have hz : aZip (aCons (rVar 1) (aCons (rCut (rVar 1) (oSome (rC (.int 1))) oNone) aNil)) [some (.vl (msD (a :: r))), some (.vl (.list ((a :: r).map fun (p : Nm × PyData) => nmD p.1))), none, none, none, none] = some ((adj (a :: r)).map fun q => .tuple [nmD q.1, nmD q.2]) := by
    have hc : rCut (rVar 1) (oSome (rC (.int 1))) oNone [some (.vl (msD (a :: r))), some (.vl (.list ((a :: r).map fun (p : Nm × PyData) => nmD p.1))), none, none, none, none] = some (.list (r.map fun p => nmD p.1)) := by
      show some (PyData.list (Pd.cutD (nmD a.1 :: r.map fun p => nmD p.1) (some 1) none)) = _
      rw [cut1]
    unfold aZip
    rw [aC_ok (d := .list ((a :: r).map fun p => nmD p.1)) rfl (aC_ok hc rfl)]
    show some (zipD _ _) = _
    rw [zip_adj]
  have hl3 := lc_ok (src := aZip (aCons (rVar 1) (aCons (rCut (rVar 1) (oSome (rC (.int 1))) oNone) aNil))) (g := gT [4, 5]) (e := rE2 fLtD (rVar 4) (rVar 5)) (vs := [4, 5]) (ρ := [some (.vl (msD (a :: r))), some (.vl (.list ((a :: r).map fun (p : Nm × PyData) => nmD p.1))), none, none, none, none]) (xs := adj (a :: r)) (h := fun (q : Nm × Nm) => .tuple [nmD q.1, nmD q.2]) (f := fun _ => .bool true) hz (by have := adj_len (a :: r); omega) fun q hq => ⟨[(4, nmD q.1), (5, nmD q.2)], rfl, e2_ok rfl rfl (ltD_ok (adj_lt h.asc q hq))⟩
  have hch : rChain fLe fLe (rC (.int 1)) (rA fLen (aCons (rVar 0) aNil)) (rC (.int 4)) [some (.vl (msD (a :: r))), none, none, none, none, none] = some (.bool true) := by
    show (match some (PyData.bool (decide ((1 : Int) ≤ (((a :: r).map fun (p : Nm × PyData) => PyData.tuple [nmD p.1, p.2]).length : Nat)))) with
      | some (.bool true) => some (PyData.bool (decide ((((a :: r).map fun (p : Nm × PyData) => PyData.tuple [nmD p.1, p.2]).length : Nat) ≤ (4 : Int))))
      | some (.bool false) => some (.bool false)
      | _ => none) = _
    rw [List.length_map, decide_eq_true (by rw [List.length_cons]; omega), decide_eq_true (by omega)]
  refine runB_rt ((sSeq_nx (sIf_nx (tOr_ok (x := false) (y := false) (tNot_ok (x := true) (tVal_of (rCall_ok (ds := [msD (a :: r)]) rfl rfl (pairs_ok _ h4)))) (tNot_ok (x := true) (tVal_of hch))))).trans ((sSeq_nx (sIf_nx (tNot_ok (x := true) (tVal_of (rA_ok (aC_ok hl1 rfl) (all_t (a :: r))))))).trans ((sSeq_nx (ρ' := [some (.vl (msD (a :: r))), some (.vl (.list ((a :: r).map fun (p : Nm × PyData) => nmD p.1))), none, none, none, none]) (sAsg_ok (l := [(1, .list ((a :: r).map fun p => nmD p.1))]) hl2 rfl)).trans (sRet_ok (rA_ok (aC_ok hl3 rfl) (all_t _))))))
def bodyRM : B1 := sSeq (sAsg (gT [3, 4, 5]) (rE2 fPart (rVar 2) (rC (.str "*")))) (sSeq (sDrop (rCall 1 m_must (aCons (rE2 fNe (rVar 4) (rC (.str ""))) aNil))) (sApp 1 (rA mkTup (aCons (rCall 1 m_name_in (aCons (rVar 5) aNil)) (aCons (rCall 1 m_number_in (aCons (rVar 3) aNil)) aNil)))))
theorem star_ne : fNe (.str "*") (.str "") = some (.bool true) := isO_ok (by decide +kernel)
theorem read_ms_loop {T : PyData} : ∀ (ys : List (Nm × PyData)) (done : List PyData) (x2 x3 x4 x5 : Option Cell), (∀ p ∈ ys, NumF p.2 ∧ NameF (nmD p.1)) → done.length + ys.length ≤ 1000 →
    ∃ y2 y3 y4 y5, forD (gN 2) bodyRM (ys.map fun p => .str (itemT p)) [some (.vl T), some (.ow done), x2, x3, x4, x5] = some (.nx [some (.vl T), some (.ow (done ++ ys.map fun p => .tuple [nmD p.1, p.2])), y2, y3, y4, y5])
  | [], done, x2, x3, x4, x5, _, _ => ⟨x2, x3, x4, x5, by rw [List.map_nil, List.map_nil, List.append_nil]; rfl⟩
  | p :: ys, done, x2, x3, x4, x5, h, hl => by
    rw [List.length_cons] at hl
    obtain ⟨h1, h2⟩ := h p (List.mem_cons_self ..)
    obtain ⟨y2, y3, y4, y5, ih⟩ := read_ms_loop ys (done ++ [.tuple [nmD p.1, p.2]]) (some (.vl (.str (itemT p)))) (some (.vl (.str (numT p.2)))) (some (.vl (.str "*"))) (some (.vl (.str (nameT (nmD p.1))))) (fun q hq => h q (List.mem_cons_of_mem _ hq)) (by rw [List.length_append, List.length_singleton]; omega)
    refine ⟨y2, y3, y4, y5, ?_⟩
    have hb : bodyRM [some (.vl T), some (.ow done), some (.vl (.str (itemT p))), x3, x4, x5] = some (.nx [some (.vl T), some (.ow (done ++ [.tuple [nmD p.1, p.2]])), some (.vl (.str (itemT p))), some (.vl (.str (numT p.2))), some (.vl (.str "*")), some (.vl (.str (nameT (nmD p.1))))]) := by
      have l1 := h1.ln
      have l2 := h2.ln
      refine (sSeq_nx (ρ' := [some (.vl T), some (.ow done), some (.vl (.str (itemT p))), some (.vl (.str (numT p.2))), some (.vl (.str "*")), some (.vl (.str (nameT (nmD p.1))))]) (sAsg_ok (l := [(3, .str (numT p.2)), (4, .str "*"), (5, .str (nameT (nmD p.1)))]) (e2_ok (x := .str (itemT p)) rfl rfl (part_ok2 tl_st (by rw [len_st]; decide) (by omega) (by omega) (h1.no 42 (by decide)))) rfl)).trans ((sMust (e2_ok rfl rfl star_ne)).trans ?_)
      have ht : rA mkTup (aCons (rCall 1 m_name_in (aCons (rVar 5) aNil)) (aCons (rCall 1 m_number_in (aCons (rVar 3) aNil)) aNil)) [some (.vl T), some (.ow done), some (.vl (.str (itemT p))), some (.vl (.str (numT p.2))), some (.vl (.str "*")), some (.vl (.str (nameT (nmD p.1))))] = some (.tuple [nmD p.1, p.2]) :=
        rA_ok (aC_ok (rCall_ok (ds := [.str (nameT (nmD p.1))]) rfl rfl h2.rd) (aC_ok (rCall_ok (ds := [.str (numT p.2)]) rfl rfl h1.rd) rfl)) rfl
      unfold sApp
      rw [ht]
      show (if done.length < 16777216 then _ else _) = _
      rw [if_pos (by omega)]
      rfl
    rw [List.map_cons, List.map_cons]
    show (match bodyRM [some (.vl T), some (.ow done), some (.vl (.str (itemT p))), x3, x4, x5] with
      | some (.nx ρ') => forD (gN 2) bodyRM (ys.map fun p => .str (itemT p)) ρ'
      | some (.ct ρ') => forD (gN 2) bodyRM (ys.map fun p => .str (itemT p)) ρ'
      | some (.bk ρ') => some (.nx ρ')
      | some (.rt d) => some (.rt d)
      | none => none) = _
    rw [hb]
    show forD (gN 2) bodyRM _ _ = _
    rw [ih, List.append_assoc]
    rfl
theorem measure_read (h : MsOk xs) : m_read_measure [.str (msT xs)] = some (msD xs) := by
  have hne : xs.map itemT ≠ [] := fun z => by
    have e := List.map_eq_nil_iff.mp z
    have := h.l1
    rw [e] at this
    exact absurd this (by decide)
  have hsp := split_ok tl_sp all_sp (ms_short h) len_sp hne (ms_free h)
  rw [ms_map] at hsp
  let T : PyData := .str (msT xs)
  obtain ⟨y2, y3, y4, y5, hf⟩ := read_ms_loop (T := T) xs [] none none none none (fun p hp => ⟨ms_num h hp, ms_name h hp⟩) (by show 0 + _ ≤ _; have := h.l4; omega)
  rw [List.nil_append] at hf
  refine runB_rt ((sMust rfl).trans ((sSeq_nx (ρ' := [some (.vl T), some (.ow []), none, none, none, none]) rfl).trans ((sSeq_nx (ρ' := [some (.vl T), some (.ow (xs.map fun p => .tuple [nmD p.1, p.2])), y2, y3, y4, y5]) ?_).trans ((sSeq_nx (sIf_nx (tNot_ok (x := true) (tVal_of (rCall_ok (ds := [msD xs]) rfl rfl (measure_is h)))))).trans (sRet_ok rfl)))))
  unfold sFor
  have hs : aList (rE2 fSplit (rVar 0) (rC (.str " "))) [some (.vl T), some (.ow []), none, none, none, none] = some (xs.map fun p => .str (itemT p)) := by
    unfold aList
    rw [e2_ok (a := rVar 0) (b := rC (.str " ")) (x := T) rfl rfl hsp]
  rw [hs]
  exact hf
end
end K73

set_option maxHeartbeats 2000000
namespace K73
open PySem PySem.Spec PyProof.Rows L2 Pd
theorem tl_eq : TL.tl ("=" : Str) = 61 :: [] := by decide +kernel
theorem tl_co : TL.tl (":" : Str) = 58 :: [] := by decide +kernel
theorem len_eq1 : ("=" : Str).length = 1 := by decide +kernel
theorem len_co : (":" : Str).length = 1 := by decide +kernel
theorem var0 : varsM.all (fun c => isO (m_is_name [.str c]) (.bool true) && (c.cps.toList.all (fun k => k != 32 && k != 61) && Nat.ble c.length 10)) = true := by decide +kernel
theorem var_f {c : Str} (h : c ∈ varsM) : m_is_name [.str c] = some (.bool true) ∧ 32 ∉ TL.tl c ∧ 61 ∉ TL.tl c ∧ c.length ≤ 10 := by
  have z := List.all_eq_true.mp var0 c h
  simp only [Bool.and_eq_true] at z
  obtain ⟨z1, z2, z3⟩ := z
  have h2 := List.all_eq_true.mp z2
  exact ⟨isO_ok z1, fun hm => by have := h2 32 hm; simp at this, fun hm => by have := h2 61 hm; simp at this, Nat.le_of_ble_eq_true z3⟩
theorem app_assoc (x y z : Str) : x ++ y ++ z = x ++ (y ++ z) := TL.ext_tl (by rw [TL.tl_append, TL.tl_append, TL.tl_append, TL.tl_append, List.append_assoc])
def itemB (b : Bx) : Str := b.v ++ "=" ++ numT b.lo ++ ":" ++ numT b.hi
theorem itemB_eq (b : Bx) : itemB b = b.v ++ "=" ++ (numT b.lo ++ ":" ++ numT b.hi) := by
  unfold itemB
  rw [app_assoc (b.v ++ "=") (numT b.lo) ":", app_assoc (b.v ++ "=") (numT b.lo ++ ":") (numT b.hi)]
def bxT (bs : List Bx) : Str := Txt.join " " (bs.map itemB)
def bxsD (bs : List Bx) : PyData := .tuple (bs.map bxD)
/-- a box of a program -/
structure BxF (p : PrG) (bs : List Bx) : Prop where
  pk : p.Ok
  v : bs.map Bx.v = p.vars
  ok : ∀ b ∈ bs, BxOk b
section
variable {p : PrG} {bs : List Bx}
theorem BxF.len (h : BxF p bs) : bs.length ≤ 3 := by
  have := vars_len h.pk.v
  rw [← h.v, List.length_map] at this
  exact this
theorem BxF.var (h : BxF p bs) {b : Bx} (hb : b ∈ bs) : b.v ∈ varsM := vars_in h.pk.v b.v (by rw [← h.v]; exact List.mem_map_of_mem hb)
theorem BxF.lo (h : BxF p bs) {b : Bx} (hb : b ∈ bs) : NumF b.lo := num_f (h.ok b hb).1
theorem BxF.hi (h : BxF p bs) {b : Bx} (hb : b ∈ bs) : NumF b.hi := num_f (h.ok b hb).2.1
theorem itemB_len (h : BxF p bs) {b : Bx} (hb : b ∈ bs) : (itemB b).length ≤ 200 := by
  have h1 := (var_f (h.var hb)).2.2.2
  have h2 := (h.lo hb).ln
  have h3 := (h.hi hb).ln
  unfold itemB
  rw [len_app, len_app, len_app, len_app, len_eq1, len_co]
  omega
theorem bx_short (h : BxF p bs) : Short (bs.map itemB) := by
  refine ⟨by rw [List.length_map]; have := h.len; omega, fun y hy => ?_⟩
  obtain ⟨b, hb, rfl⟩ := List.mem_map.mp hy
  have := itemB_len h hb
  omega
theorem bx_free (h : BxF p bs) : ∀ y ∈ bs.map itemB, 32 ∉ TL.tl y := fun y hy => by
  obtain ⟨b, hb, rfl⟩ := List.mem_map.mp hy
  unfold itemB
  rw [TL.tl_append, TL.tl_append, TL.tl_append, TL.tl_append, tl_eq, tl_co]
  intro hm
  simp only [List.mem_append] at hm
  rcases hm with (((hm | hm) | hm) | hm) | hm
  · exact (var_f (h.var hb)).2.1 hm
  · simp at hm
  · exact (h.lo hb).no 32 (by decide) hm
  · simp at hm
  · exact (h.hi hb).no 32 (by decide) hm
theorem itemB_ev {ρ : Sl} {a b c : E1} {x : Bx} (h : BxF p bs) (hx : x ∈ bs) (ha : a ρ = some (.str x.v)) (hb : b ρ = some (.str (numT x.lo))) (hc : c ρ = some (.str (numT x.hi))) :
    rE2 fAdd (rE2 fAdd (rE2 fAdd (rE2 fAdd a (rC (.str "="))) b) (rC (.str ":"))) c ρ = some (.str (itemB x)) := by
  have h1 := (var_f (h.var hx)).2.2.2
  have h2 := (h.lo hx).ln
  have h3 := (h.hi hx).ln
  refine e2_ok (e2_ok (e2_ok (e2_ok ha rfl (add_str (by rw [len_eq1]; omega))) hb (add_str ?_)) rfl (add_str ?_)) hc (add_str ?_)
  · rw [len_app, len_eq1]; omega
  · rw [len_app, len_app, len_eq1, len_co]; omega
  · rw [len_app, len_app, len_app, len_eq1, len_co]; omega
theorem bx_map (f : Bx → Str) : (bs.map f).map PyData.str = bs.map fun b => .str (f b) := by
  rw [List.map_map]
  rfl
theorem box_text (h : BxF p bs) : m__law_box_text [bxsD bs] = some (.str (bxT bs)) := by
  have hlc := lc_ok (src := aTup (rVar 0)) (g := gT [1, 2, 3]) (e := rE2 fAdd (rE2 fAdd (rE2 fAdd (rE2 fAdd (rVar 1) (rC (.str "="))) (rCall 1 m__law_shown (aCons (rVar 2) aNil))) (rC (.str ":"))) (rCall 1 m__law_shown (aCons (rVar 3) aNil))) (vs := [1, 2, 3]) (ρ := [some (.vl (bxsD bs)), none, none, none]) (xs := bs) (h := bxD) (f := fun b => .str (itemB b)) rfl (by have := h.len; omega) fun b hb => ⟨[(1, .str b.v), (2, b.lo), (3, b.hi)], rfl, itemB_ev h hb rfl (rCall_ok (ds := [b.lo]) rfl rfl (h.lo hb).tx) (rCall_ok (ds := [b.hi]) rfl rfl (h.hi hb).tx)⟩
  rw [← bx_map] at hlc
  exact runB_rt (sRet_ok (e2_ok rfl hlc (join_ok (bx_short h) len_sp)))
theorem box_show (h : BxF p bs) : m_show_box [bxsD bs] = some (.str (bxT bs)) := by
  have hl1 := lc_ok (src := aTup (rVar 0)) (g := gT [2, 3, 4]) (e := rA mkTup (aCons (rVar 2) (aCons (rCall 1 m_show_number (aCons (rVar 3) aNil)) (aCons (rCall 1 m_show_number (aCons (rVar 4) aNil)) aNil)))) (vs := [2, 3, 4]) (ρ := [some (.vl (bxsD bs)), none, none, none, none]) (xs := bs) (h := bxD) (f := fun b => .tuple [.str b.v, .str (numT b.lo), .str (numT b.hi)]) rfl (by have := h.len; omega) fun b hb => ⟨[(2, .str b.v), (3, b.lo), (4, b.hi)], rfl, rA_ok (aC_ok rfl (aC_ok (rCall_ok (ds := [b.lo]) rfl rfl (h.lo hb).sh) (aC_ok (rCall_ok (ds := [b.hi]) rfl rfl (h.hi hb).sh) rfl))) rfl⟩
  let TD : PyData := .list (bs.map fun b => .tuple [.str b.v, .str (numT b.lo), .str (numT b.hi)])
  have hl2 := lc_ok (src := aList (rVar 1)) (g := gT [2, 3, 4]) (e := rE2 fAdd (rE2 fAdd (rE2 fAdd (rE2 fAdd (rVar 2) (rC (.str "="))) (rVar 3)) (rC (.str ":"))) (rVar 4)) (vs := [2, 3, 4]) (ρ := [some (.vl (bxsD bs)), some (.vl TD), none, none, none]) (xs := bs) (h := fun (b : Bx) => .tuple [.str b.v, .str (numT b.lo), .str (numT b.hi)]) (f := fun b => .str (itemB b)) rfl (by have := h.len; omega) fun b hb => ⟨[(2, .str b.v), (3, .str (numT b.lo)), (4, .str (numT b.hi))], rfl, itemB_ev h hb rfl rfl rfl⟩
  rw [← bx_map] at hl2
  exact runB_rt ((sSeq_nx (ρ' := [some (.vl (bxsD bs)), some (.vl TD), none, none, none]) (sAsg_ok (l := [(1, TD)]) hl1 rfl)).trans (sRet_ok (e2_ok rfl hl2 (join_ok (bx_short h) len_sp))))
theorem vars_ne0 : varsMenu.all (fun vs => isO (fNe (tupS vs) (tupS vs)) (.bool false)) = true := by decide +kernel
theorem box_is (h : BxF p bs) : m_is_box [p.data, bxsD bs] = some (.bool true) := by
  have h3 := h.len
  let ρ : Sl := [some (.vl p.data), some (.vl (bxsD bs)), none, none, none, none]
  have hl1 := lc_ok (src := aTup (rVar 1)) (g := gN 5) (e := rAnd (rE1 (fIsi "tuple") (rVar 5)) (rE2 fEq (rA fLen (aCons (rVar 5) aNil)) (rC (.int 3)))) (vs := [5]) (ρ := ρ) (xs := bs) (h := bxD) (f := fun _ => .bool true) rfl (by omega) fun b hb => ⟨[(5, bxD b)], rfl, rAnd_t rfl rfl⟩
  have hl2 := lc_ok (src := aTup (rVar 1)) (g := gT [2, 3, 4]) (e := rE1 (fIsi "str") (rVar 2)) (vs := [2, 3, 4]) (ρ := ρ) (xs := bs) (h := bxD) (f := fun _ => .bool true) rfl (by omega) fun b hb => ⟨[(2, .str b.v), (3, b.lo), (4, b.hi)], rfl, rfl⟩
  have hl3 := lc_ok (src := aTup (rVar 1)) (g := gT [2, 3, 4]) (e := rVar 2) (vs := [2, 3, 4]) (ρ := ρ) (xs := bs) (h := bxD) (f := fun b => .str b.v) rfl (by omega) fun b hb => ⟨[(2, .str b.v), (3, b.lo), (4, b.hi)], rfl, rfl⟩
  have hl4 := lc_ok (src := aTup (rVar 1)) (g := gT [2, 3, 4]) (e := rAnd (rCall 1 m_is_number (aCons (rVar 3) aNil)) (rAnd (rCall 1 m_is_number (aCons (rVar 4) aNil)) (rCall 2 m_is_less (aCons (rVar 3) (aCons (rVar 4) aNil))))) (vs := [2, 3, 4]) (ρ := ρ) (xs := bs) (h := bxD) (f := fun _ => .bool true) rfl (by omega) fun b hb => ⟨[(2, .str b.v), (3, b.lo), (4, b.hi)], rfl, by
    obtain ⟨z1, z2, z3⟩ := h.ok b hb
    have z4 := (less_ok z1 z2).2
    rw [z3] at z4
    exact rAnd_t (rCall_ok (ds := [b.lo]) rfl rfl (h.lo hb).is) (rAnd_t (rCall_ok (ds := [b.hi]) rfl rfl (h.hi hb).is) (rCall_ok (ds := [b.lo, b.hi]) rfl rfl z4))⟩
  have hv : bs.map (fun b => PyData.str b.v) = p.vars.map .str := by
    rw [← h.v, List.map_map]
    rfl
  rw [hv] at hl3
  have hne : fNe (tupS p.vars) (tupS p.vars) = some (.bool false) := isO_ok (List.all_eq_true.mp vars_ne0 p.vars h.pk.v)
  exact runB_rt ((sSeq_nx (sIf_nx (tOr_ok (x := false) (y := false) rfl (tNot_ok (x := true) (tVal_of (rA_ok (aC_ok hl1 rfl) (all_t bs))))))).trans ((sSeq_nx (sIf_nx (tNot_ok (x := true) (tVal_of (rA_ok (aC_ok hl2 rfl) (all_t bs)))))).trans ((sSeq_nx (sIf_nx (tVal_of (e2_ok (x := tupS p.vars) (y := tupS p.vars) (rA_ok (aC_ok hl3 rfl) rfl) rfl hne)))).trans (sRet_ok (rA_ok (aC_ok hl4 rfl) (all_t bs))))))
def bodyRB : B1 := sSeq (sAsg (gT [4, 5, 6]) (rE2 fPart (rVar 3) (rC (.str "=")))) (sSeq (sAsg (gT [7, 8, 9]) (rE2 fPart (rVar 6) (rC (.str ":")))) (sSeq (sDrop (rCall 1 m_must (aCons (rAnd (rE2 fNe (rVar 5) (rC (.str ""))) (rAnd (rE2 fNe (rVar 8) (rC (.str ""))) (rCall 1 m_is_name (aCons (rVar 4) aNil)))) aNil))) (sApp 2 (rA mkTup (aCons (rVar 4) (aCons (rCall 1 m_number_in (aCons (rVar 7) aNil)) (aCons (rCall 1 m_number_in (aCons (rVar 9) aNil)) aNil)))))))
theorem eq_ne : fNe (.str "=") (.str "") = some (.bool true) := isO_ok (by decide +kernel)
theorem co_ne : fNe (.str ":") (.str "") = some (.bool true) := isO_ok (by decide +kernel)
theorem read_bx_loop {P0 T : PyData} : ∀ (ys : List Bx) (done : List PyData) (x3 x4 x5 x6 x7 x8 x9 : Option Cell), (∀ b ∈ ys, b.v ∈ varsM ∧ NumF b.lo ∧ NumF b.hi) → done.length + ys.length ≤ 1000 →
    ∃ y3 y4 y5 y6 y7 y8 y9, forD (gN 3) bodyRB (ys.map fun b => .str (itemB b)) [some (.vl P0), some (.vl T), some (.ow done), x3, x4, x5, x6, x7, x8, x9] = some (.nx [some (.vl P0), some (.vl T), some (.ow (done ++ ys.map bxD)), y3, y4, y5, y6, y7, y8, y9])
  | [], done, x3, x4, x5, x6, x7, x8, x9, _, _ => ⟨x3, x4, x5, x6, x7, x8, x9, by rw [List.map_nil, List.map_nil, List.append_nil]; rfl⟩
  | b :: ys, done, x3, x4, x5, x6, x7, x8, x9, h, hl => by
    rw [List.length_cons] at hl
    obtain ⟨hv, h1, h2⟩ := h b (List.mem_cons_self ..)
    obtain ⟨v1, v2, v3, v4⟩ := var_f hv
    let E : Str := numT b.lo ++ ":" ++ numT b.hi
    obtain ⟨y3, y4, y5, y6, y7, y8, y9, ih⟩ := read_bx_loop (P0 := P0) (T := T) ys (done ++ [bxD b]) (some (.vl (.str (itemB b)))) (some (.vl (.str b.v))) (some (.vl (.str "="))) (some (.vl (.str E))) (some (.vl (.str (numT b.lo)))) (some (.vl (.str ":"))) (some (.vl (.str (numT b.hi)))) (fun q hq => h q (List.mem_cons_of_mem _ hq)) (by rw [List.length_append, List.length_singleton]; omega)
    refine ⟨y3, y4, y5, y6, y7, y8, y9, ?_⟩
    have l1 := h1.ln
    have l2 := h2.ln
    have hE : E.length ≤ 100 := by
      show (numT b.lo ++ ":" ++ numT b.hi).length ≤ 100
      rw [len_app, len_app, len_co]
      omega
    have hb : bodyRB [some (.vl P0), some (.vl T), some (.ow done), some (.vl (.str (itemB b))), x4, x5, x6, x7, x8, x9] = some (.nx [some (.vl P0), some (.vl T), some (.ow (done ++ [bxD b])), some (.vl (.str (itemB b))), some (.vl (.str b.v)), some (.vl (.str "=")), some (.vl (.str E)), some (.vl (.str (numT b.lo))), some (.vl (.str ":")), some (.vl (.str (numT b.hi)))]) := by
      have p1 : fPart (.str (itemB b)) (.str "=") = some (.tuple [.str b.v, .str "=", .str E]) := by
        rw [itemB_eq]
        exact part_ok2 tl_eq (by rw [len_eq1]; decide) (by omega) (show E.length ≤ 10000 by omega) v3
      have p2 : fPart (.str E) (.str ":") = some (.tuple [.str (numT b.lo), .str ":", .str (numT b.hi)]) := part_ok2 tl_co (by rw [len_co]; decide) (by omega) (by omega) (h1.no 58 (by decide))
      refine (sSeq_nx (ρ' := [some (.vl P0), some (.vl T), some (.ow done), some (.vl (.str (itemB b))), some (.vl (.str b.v)), some (.vl (.str "=")), some (.vl (.str E)), x7, x8, x9]) (sAsg_ok (l := [(4, .str b.v), (5, .str "="), (6, .str E)]) (e2_ok (x := .str (itemB b)) rfl rfl p1) rfl)).trans ?_
      refine (sSeq_nx (ρ' := [some (.vl P0), some (.vl T), some (.ow done), some (.vl (.str (itemB b))), some (.vl (.str b.v)), some (.vl (.str "=")), some (.vl (.str E)), some (.vl (.str (numT b.lo))), some (.vl (.str ":")), some (.vl (.str (numT b.hi)))]) (sAsg_ok (l := [(7, .str (numT b.lo)), (8, .str ":"), (9, .str (numT b.hi))]) (e2_ok (x := .str E) rfl rfl p2) rfl)).trans ?_
      refine (sMust (rAnd_t (e2_ok rfl rfl eq_ne) (rAnd_t (e2_ok rfl rfl co_ne) (rCall_ok (ds := [.str b.v]) rfl rfl v1)))).trans ?_
      have ht : rA mkTup (aCons (rVar 4) (aCons (rCall 1 m_number_in (aCons (rVar 7) aNil)) (aCons (rCall 1 m_number_in (aCons (rVar 9) aNil)) aNil))) [some (.vl P0), some (.vl T), some (.ow done), some (.vl (.str (itemB b))), some (.vl (.str b.v)), some (.vl (.str "=")), some (.vl (.str E)), some (.vl (.str (numT b.lo))), some (.vl (.str ":")), some (.vl (.str (numT b.hi)))] = some (bxD b) :=
        rA_ok (aC_ok rfl (aC_ok (rCall_ok (ds := [.str (numT b.lo)]) rfl rfl h1.rd) (aC_ok (rCall_ok (ds := [.str (numT b.hi)]) rfl rfl h2.rd) rfl))) rfl
      unfold sApp
      rw [ht]
      show (if done.length < 16777216 then _ else _) = _
      rw [if_pos (by omega)]
      rfl
    rw [List.map_cons, List.map_cons]
    show (match bodyRB [some (.vl P0), some (.vl T), some (.ow done), some (.vl (.str (itemB b))), x4, x5, x6, x7, x8, x9] with
      | some (.nx ρ') => forD (gN 3) bodyRB (ys.map fun b => .str (itemB b)) ρ'
      | some (.ct ρ') => forD (gN 3) bodyRB (ys.map fun b => .str (itemB b)) ρ'
      | some (.bk ρ') => some (.nx ρ')
      | some (.rt d) => some (.rt d)
      | none => none) = _
    rw [hb]
    show forD (gN 3) bodyRB _ _ = _
    rw [ih, List.append_assoc]
    rfl
theorem ne_empty {x : Str} (h : 1 ≤ x.length) : fNe (.str x) (.str "") = some (.bool true) := by
  show some (PyData.bool (!decide (x = ("" : Str)))) = _
  rw [decide_eq_false]
  · rfl
  · intro z
    rw [z] at h
    exact absurd h (by decide +kernel)
theorem join_pos {s y : Str} {ys : List Str} (h : 1 ≤ y.length) : 1 ≤ (Txt.join s (y :: ys)).length := by
  rw [TL.join_eq]
  cases ys with
  | nil => exact h
  | cons z r =>
    show 1 ≤ (y ++ s ++ Str.join s (z :: r)).length
    rw [len_app, len_app]
    omega
theorem box_read (h : BxF p bs) : m_read_box [p.data, .str (bxT bs)] = some (bxsD bs) := by
  let T : PyData := .str (bxT bs)
  obtain ⟨y3, y4, y5, y6, y7, y8, y9, hf⟩ := read_bx_loop (P0 := p.data) (T := T) bs [] none none none none none none none (fun b hb => ⟨h.var hb, h.lo hb, h.hi hb⟩) (by show 0 + _ ≤ _; have := h.len; omega)
  rw [List.nil_append] at hf
  refine runB_rt ((sMust rfl).trans ((sSeq_nx (ρ' := [some (.vl p.data), some (.vl T), some (.ow []), none, none, none, none, none, none, none]) rfl).trans ((sSeq_nx (ρ' := [some (.vl p.data), some (.vl T), some (.ow (bs.map bxD)), y3, y4, y5, y6, y7, y8, y9]) ?_).trans ((sSeq_nx (sIf_nx (tNot_ok (x := true) (tVal_of (rCall_ok (ds := [p.data, bxsD bs]) rfl rfl (box_is h)))))).trans (sRet_ok rfl)))))
  unfold sFor
  have hs : aList (rIf (tVal (rE2 fNe (rVar 1) (rC (.str "")))) (rE2 fSplit (rVar 1) (rC (.str " "))) (rA mkLst aNil)) [some (.vl p.data), some (.vl T), some (.ow []), none, none, none, none, none, none, none] = some (bs.map fun b => .str (itemB b)) := by
    unfold aList
    cases hbs : bs with
    | nil =>
      have e : T = .str Str.empty := by
        show PyData.str (bxT bs) = _
        rw [hbs]
        rfl
      rw [e]
      have : fNe (.str Str.empty) (.str "") = some (.bool false) := isO_ok (by decide +kernel)
      rw [rIf_f (x := .list []) (tVal_of (e2_ok (x := .str Str.empty) rfl rfl this)) rfl]
      rfl
    | cons b r =>
      have hsp := split_ok tl_sp all_sp (bx_short h) len_sp (by rw [hbs]; simp) (bx_free h)
      rw [bx_map] at hsp
      have hb0 : b ∈ bs := by rw [hbs]; exact List.mem_cons_self ..
      have hp : 1 ≤ (bxT bs).length := by
        unfold bxT
        rw [hbs]
        refine join_pos ?_
        unfold itemB
        rw [len_app]
        have := (h.hi hb0).l1
        omega
      rw [rIf_t (x := .list (bs.map fun b => .str (itemB b))) (tVal_of (e2_ok (x := T) rfl rfl (ne_empty hp))) (e2_ok (x := T) rfl rfl hsp), hbs]
  rw [hs]
  exact hf
theorem bxs_sm (h : BxF p bs) : smallD (bxsD bs) = true ∧ (bxsD bs).depth ≤ 5 := by
  have h1 : ∀ b ∈ bs, ∀ d ∈ [PyData.str b.v, b.lo, b.hi], smallD d = true ∧ d.depth ≤ 1 := fun b hb d hd => by
    obtain ⟨z1, z2, _⟩ := h.ok b hb
    simp only [List.mem_cons, List.not_mem_nil, or_false] at hd
    rcases hd with rfl | rfl | rfl
    · exact ⟨rfl, by simp [PyData.depth]⟩
    · exact ⟨(numsX_nice z1).sm, (numsX_nice z1).dp⟩
    · exact ⟨(numsX_nice z2).sm, (numsX_nice z2).dp⟩
  refine ⟨small_tup (fun d hd => ?_) (by rw [List.length_map]; have := h.len; omega), Nat.le_trans (depth_tup (k := 2) fun d hd => ?_) (by decide)⟩
  · obtain ⟨b, hb, rfl⟩ := List.mem_map.mp hd
    exact small_tup (fun d hd => (h1 b hb d hd).1) (Nat.le_of_ble_eq_true rfl)
  · obtain ⟨b, hb, rfl⟩ := List.mem_map.mp hd
    exact depth_tup fun d hd => (h1 b hb d hd).2
end
end K73

set_option maxHeartbeats 2000000
namespace K73
open PySem PySem.Spec PyProof.Rows L2 Pd
theorem rCallK_ok {n : Nat} {b : Bool} {m : List PyData → Option PyData} {a : A1} {ρ : Sl} {ds : List PyData} {d : PyData} (ha : a ρ = some ds) (hl : ds.length = n) (h : m (turn b ds) = some d) : rCallK n b m a ρ = some d := by
  unfold rCallK
  rw [ha]
  show (if ds.length = n then m (turn b ds) else none) = _
  rw [if_pos hl, h]
theorem small_lst {ds : List PyData} (h : ∀ d ∈ ds, smallD d = true) (hl : ds.length ≤ 1000) : smallD (.list ds) = true := by
  simp only [smallD, Nat.ble_eq_true_of_le hl, small_all h, Bool.and_self]
theorem depth_lst {ds : List PyData} {k : Nat} (h : ∀ d ∈ ds, d.depth ≤ k) : (PyData.list ds).depth ≤ k + 1 := by
  have := depth_tup h
  simp only [PyData.depth] at this ⊢
  exact this
theorem same2 {d : PyData} (h1 : smallD d = true) (h2 : d.depth ≤ 10) : m__law_same 14 [.list [d, d], .list [d, d]] = some (.bool true) := by
  refine same_ok 14 _ (small_lst (fun x hx => ?_) (Nat.le_of_ble_eq_true rfl)) (Nat.lt_of_le_of_lt (depth_lst (k := 10) fun x hx => ?_) (by decide))
  · simp only [List.mem_cons, List.not_mem_nil, or_false] at hx
    rcases hx with rfl | rfl <;> exact h1
  · simp only [List.mem_cons, List.not_mem_nil, or_false] at hx
    rcases hx with rfl | rfl <;> exact h2
theorem same3 (t : Str) : m__law_same 14 [.list [.str t, .str t, .bool true], .list [.str t, .str t, .bool true]] = some (.bool true) := same_ok 14 _ rfl (by simp [PyData.depth, PyData.depthAll])
theorem same4 (t : Str) : m__law_same 14 [.list [.str t, .str t, .bool true, .bool true], .list [.str t, .str t, .bool true, .bool true]] = some (.bool true) := same_ok 14 _ rfl (by simp [PyData.depth, PyData.depthAll])
theorem box_right {p : PrG} {bs : List Bx} (h : BxF p bs) : m__law_is_box_right [p.data, bxsD bs] = some (.bool true) := by
  let t : PyData := .str (bxT bs)
  let D : PyData := bxsD bs
  have h1 : rA mkLst (aCons (rCall 1 m_show_box (aCons (rVar 1) aNil)) (aCons (rCallK (["box"] : List Str).length false m_show_box (aCons (rVar 1) aNil)) (aCons (rCall 2 m_is_box (aCons (rVar 0) (aCons (rVar 1) aNil))) (aCons (rCallK (["program", "thing"] : List Str).length true m_is_box (aCons (rVar 1) (aCons (rVar 0) aNil))) aNil)))) [some (.vl p.data), some (.vl D), some (.vl t), none] = some (.list [t, t, .bool true, .bool true]) :=
    rA_ok (aC_ok (rCall_ok (ds := [D]) rfl rfl (box_show h)) (aC_ok (rCallK_ok (ds := [D]) rfl rfl (box_show h)) (aC_ok (rCall_ok (ds := [p.data, D]) rfl rfl (box_is h)) (aC_ok (rCallK_ok (ds := [D, p.data]) rfl rfl (box_is h)) rfl)))) rfl
  have h2 : rA mkLst (aCons (rCall 2 m_read_box (aCons (rVar 0) (aCons (rVar 2) aNil))) (aCons (rCallK (["program", "thing"] : List Str).length true m_read_box (aCons (rVar 2) (aCons (rVar 0) aNil))) aNil)) [some (.vl p.data), some (.vl D), some (.vl t), some (.vl (.list [t, t, .bool true, .bool true]))] = some (.list [D, D]) :=
    rA_ok (aC_ok (rCall_ok (ds := [p.data, t]) rfl rfl (box_read h)) (aC_ok (rCallK_ok (ds := [t, p.data]) rfl rfl (box_read h)) rfl)) rfl
  refine runB_rt ((sSeq_nx (ρ' := [some (.vl p.data), some (.vl D), some (.vl t), none]) (sAsg_ok (l := [(2, t)]) (rCall_ok (ds := [D]) rfl rfl (box_text h)) rfl)).trans ((sSeq_nx (ρ' := [some (.vl p.data), some (.vl D), some (.vl t), some (.vl (.list [t, t, .bool true, .bool true]))]) (sAsg_ok (l := [(3, .list [t, t, .bool true, .bool true])]) h1 rfl)).trans ((sSeq_nx (sIf_nx (tNot_ok (x := true) (tVal_of (rCall_ok (ds := [.list [t, t, .bool true, .bool true], .list [t, t, .bool true, .bool true]]) rfl rfl (same4 _)))))).trans (sRet_ok ?_))))
  obtain ⟨s1, s2⟩ := bxs_sm h
  exact rCall_ok (ds := [.list [D, D], .list [D, D]]) (aC_ok h2 rfl) rfl (same2 s1 (Nat.le_trans s2 (by decide)))
end K73

set_option maxHeartbeats 2000000
namespace K73
open PySem PySem.Spec PyProof.Rows L2 Pd
/-! ### expressions as texts -/
def opS : Nat → Str
  | 0 => " + "
  | 1 => " - "
  | _ => " * "
def Ex.text : Ex → Str
  | .num i => iStr' i
  | .var x => x
  | .pair o a b => "(" ++ a.text ++ opS o ++ b.text ++ ")"
def LT : Nat → Nat
  | 0 => 10
  | n + 1 => 2 * LT n + 5
theorem LT_up (n : Nat) : 10 ≤ LT n := by
  induction n with
  | zero => exact Nat.le_refl _
  | succ n ih =>
    show 10 ≤ 2 * LT n + 5
    omega
theorem const0 : constsE.all (fun i => isO (fStr [.int i]) (.str (iStr' i)) && (Nat.ble (iStr' i).length 10 && (isO (m_is_in_range [.int i]) (.bool true) && (iStr' i).cps.toList.all fun c => c != 59))) = true := by decide +kernel
theorem const_f {i : Int} (h : i ∈ constsE) : fStr [.int i] = some (.str (iStr' i)) ∧ (iStr' i).length ≤ 10 ∧ m_is_in_range [.int i] = some (.bool true) ∧ 59 ∉ TL.tl (iStr' i) := by
  have z := List.all_eq_true.mp const0 i h
  simp only [Bool.and_eq_true] at z
  obtain ⟨z1, z2, z3, z4⟩ := z
  exact ⟨isO_ok z1, Nat.le_of_ble_eq_true z2, isO_ok z3, fun hm => by have := List.all_eq_true.mp z4 59 hm; simp at this⟩
theorem len_op (o : Nat) : (opS o).length = 3 := by
  match o with
  | 0 => decide +kernel
  | 1 => decide +kernel
  | _ + 2 => exact (show (" * " : Str).length = 3 by decide +kernel)
theorem len_lp : ("(" : Str).length = 1 := by decide +kernel
theorem len_rp : (")" : Str).length = 1 := by decide +kernel
theorem text_len {vs : List Str} (hv : ∀ v ∈ vs, v ∈ varsM) : ∀ (j : Nat) (e : Ex), EOk vs j e → e.text.length ≤ LT j
  | 0, _, h => h.elim
  | j + 1, .num i, h => Nat.le_trans (const_f h).2.1 (LT_up _)
  | j + 1, .var x, h => Nat.le_trans (var_f (hv x h)).2.2.2 (LT_up _)
  | j + 1, .pair o a b, ⟨_, _, ha, hb⟩ => by
    have h1 := text_len hv j a ha
    have h2 := text_len hv j b hb
    show ("(" ++ a.text ++ opS o ++ b.text ++ ")" : Str).length ≤ 2 * LT j + 5
    rw [len_app, len_app, len_app, len_app, len_op, len_lp, len_rp]
    omega
theorem LT_top {j : Nat} (h : j ≤ 4) : LT j ≤ 240 := by
  have : j = 0 ∨ j = 1 ∨ j = 2 ∨ j = 3 ∨ j = 4 := by omega
  rcases this with rfl | rfl | rfl | rfl | rfl <;> decide
/-- the word of a pair -/
theorem op_cases {o : Nat} (h : o < 3) : o = 0 ∨ o = 1 ∨ o = 2 := by omega
theorem op_var {o : Nat} (h : o < 3) : fEq (.str (opW o)) (.str "variable") = some (.bool false) := by
  rcases op_cases h with rfl | rfl | rfl <;> exact isO_ok (by decide +kernel)
theorem op_cell {o : Nat} (h : o < 3) : fEq (.str (opW o)) (.str "cell") = some (.bool false) := by
  rcases op_cases h with rfl | rfl | rfl <;> exact isO_ok (by decide +kernel)
theorem op_times {o : Nat} (h : o < 3) : fEq (.str (opW o)) (.str "times") = some (.bool (decide (o = 2))) := by
  rcases op_cases h with rfl | rfl | rfl <;> exact isO_ok (by decide +kernel)
theorem op_pm {o : Nat} (h : o < 3) (h2 : o ≠ 2) : fIn true (.str (opW o)) (.tuple [.str "plus", .str "minus"]) = some (.bool false) := by
  rcases op_cases h with rfl | rfl | rfl
  · exact isO_ok (by decide +kernel)
  · exact isO_ok (by decide +kernel)
  · exact absurd rfl h2
theorem op_sign {o : Nat} (h : o < 3) : lookF [("plus", .str " + "), ("minus", .str " - "), ("times", .str " * ")] (.str (opW o)) = some (.str (opS o)) := by
  rcases op_cases h with rfl | rfl | rfl <;> exact isO_ok (by decide +kernel)
theorem disp_ok : okDisp [("plus", .str " + "), ("minus", .str " - "), ("times", .str " * ")] = true := by decide +kernel
theorem written_ok {vs : List Str} (hv : ∀ v ∈ vs, v ∈ varsM) : ∀ (j : Nat) (e : Ex) (n : Nat), EOk vs j e → j ≤ n → j ≤ 4 → m__law_written n [e.data] = some (.str e.text)
  | 0, _, _, h, _, _ => h.elim
  | j + 1, e, 0, _, h, _ => by omega
  | j + 1, .num i, n + 1, h, _, _ => runB_rt (sSeq_rt ((sIf_t (tNot_ok (x := false) rfl)).trans (sRet_ok (rA_ok rfl (const_f h).1))))
  | j + 1, .var x, n + 1, h, _, _ => by
    refine runB_rt ((sSeq_nx (sIf_nx (tNot_ok (x := true) rfl))).trans (sSeq_rt ((sIf_t (tVal_of (e2_ok (x := .str "variable") rfl rfl (fEq_str _)))).trans (sRet_ok rfl))))
  | j + 1, .pair o a b, n + 1, h, hn, h4 => by
    obtain ⟨ho, h2, ha, hb⟩ := h
    have ia := written_ok hv j a n ha (by omega) (by omega)
    have ib := written_ok hv j b n hb (by omega) (by omega)
    have la := text_len hv j a ha
    have lb := text_len hv j b hb
    have l4 := LT_top (j := j) (by omega)
    let D : PyData := .tuple [.str (opW o), a.data, b.data]
    have hx : ∀ y : Option Cell, rE2 fIx (rVar 0) (rC (.int 0)) [some (.vl D), y] = some (.str (opW o)) := fun y => rfl
    have hsg : rDispGet (dCons "plus" (rC (.str " + ")) (dCons "minus" (rC (.str " - ")) (dCons "times" (rC (.str " * ")) dNil))) (rE2 fIx (rVar 0) (rC (.int 0))) [some (.vl D), none] = some (.str (opS o)) := by
      show (if okDisp [("plus", .str " + "), ("minus", .str " - "), ("times", .str " * ")] = true then (rE2 fIx (rVar 0) (rC (.int 0)) [some (.vl D), none]).bind (lookF [("plus", .str " + "), ("minus", .str " - "), ("times", .str " * ")]) else none) = _
      rw [if_pos disp_ok, hx]
      exact op_sign ho
    have hone : rIf (tVal (rE2 fEq (rE2 fIx (rVar 0) (rC (.int 0))) (rC (.str "times")))) (rA fStr (aCons (rE2 fIx (rVar 0) (rC (.int 1))) aNil)) (rCall 1 (m__law_written n) (aCons (rE2 fIx (rVar 0) (rC (.int 1))) aNil)) [some (.vl D), some (.vl (.str (opS o)))] = some (.str a.text) := by
      by_cases q : o = 2
      · obtain ⟨i, rfl⟩ := h2 q
        refine rIf_t (tVal_of (e2_ok (hx _) rfl ((op_times ho).trans (by rw [decide_eq_true q])))) (rA_ok rfl ?_)
        cases j with
        | zero => exact ha.elim
        | succ j => exact (const_f ha).1
      · exact rIf_f (tVal_of (e2_ok (hx _) rfl ((op_times ho).trans (by rw [decide_eq_false q])))) (rCall_ok (ds := [a.data]) rfl rfl ia)
    have e1 : fAdd (.str "(") (.str a.text) = some (.str ("(" ++ a.text)) := add_str (by rw [len_lp]; omega)
    have e2 : fAdd (.str ("(" ++ a.text)) (.str (opS o)) = some (.str ("(" ++ a.text ++ opS o)) := add_str (by rw [len_app, len_lp, len_op]; omega)
    have e3 : fAdd (.str ("(" ++ a.text ++ opS o)) (.str b.text) = some (.str ("(" ++ a.text ++ opS o ++ b.text)) := add_str (by rw [len_app, len_app, len_lp, len_op]; omega)
    have e4 : fAdd (.str ("(" ++ a.text ++ opS o ++ b.text)) (.str ")") = some (.str ("(" ++ a.text ++ opS o ++ b.text ++ ")")) := add_str (by rw [len_app, len_app, len_app, len_lp, len_op, len_rp]; omega)
    exact runB_rt ((sSeq_nx (sIf_nx (tNot_ok (x := true) rfl))).trans ((sSeq_nx (sIf_nx (tVal_of (e2_ok (hx _) rfl (op_var ho))))).trans ((sSeq_nx (ρ' := [some (.vl D), some (.vl (.str (opS o)))]) (sAsg_ok (l := [(1, .str (opS o))]) hsg rfl)).trans (sRet_ok (e2_ok (e2_ok (e2_ok (e2_ok rfl hone e1) rfl e2) (rCall_ok (ds := [b.data]) rfl rfl ib) e3) rfl e4)))))
theorem empty_app (x : Str) : Str.empty ++ x = x := TL.ext_tl (by rw [TL.tl_append]; rfl)
theorem fmt_ok {x : Str} (h : x.length ≤ 16777216) : fFmt (.str x) = some x := by
  show (if x.length ≤ 16777216 then some x else none) = _
  rw [if_pos h]
theorem rFmt_ok {a : E1} {ρ : Sl} {x : Str} (ha : a ρ = some (.str x)) (h : x.length ≤ 16777216) : rFmt a ρ = some x := by
  unfold rFmt
  rw [ha]
  exact fmt_ok h
theorem js_cons {r : F1} {rs : List F1} {acc y z : Str} {ρ : Sl} (h : r ρ = some y) (hl : (acc ++ y).length ≤ 16777216) (ht : jsD rs (acc ++ y) ρ = some z) : jsD (r :: rs) acc ρ = some z := by
  show (r ρ).bind _ = _
  rw [h]
  show (if (acc ++ y).length ≤ 16777216 then jsD rs (acc ++ y) ρ else none) = _
  rw [if_pos hl, ht]
theorem show_ok {vs : List Str} (hv : ∀ v ∈ vs, v ∈ varsM) : ∀ (j : Nat) (e : Ex) (n : Nat), EOk vs j e → j ≤ n → j ≤ 4 → m_show_expression n [e.data] = some (.str e.text)
  | 0, _, _, h, _, _ => h.elim
  | j + 1, e, 0, _, h, _ => by omega
  | j + 1, .num i, n + 1, h, _, _ => runB_rt (sSeq_rt ((sIf_t rfl).trans (sRet_ok (rA_ok rfl (const_f h).1))))
  | j + 1, .var x, n + 1, h, _, _ => by
    refine runB_rt ((sSeq_nx (sIf_nx rfl)).trans ((sSeq_nx (ρ' := [some (.vl (.tuple [.str "variable", .str x])), some (.vl (.str "variable")), some (.vl (.list [.str x]))]) rfl).trans (sSeq_rt ((sIf_t (tVal_of (e2_ok (x := .str "variable") rfl rfl (fEq_str _)))).trans (sRet_ok rfl)))))
  | j + 1, .pair o a b, n + 1, h, hn, h4 => by
    obtain ⟨ho, h2, ha, hb⟩ := h
    have ia := show_ok hv j a n ha (by omega) (by omega)
    have ib := show_ok hv j b n hb (by omega) (by omega)
    have la := text_len hv j a ha
    have lb := text_len hv j b hb
    have l4 := LT_top (j := j) (by omega)
    let D : PyData := .tuple [.str (opW o), a.data, b.data]
    let ρ : Sl := [some (.vl D), some (.vl (.str (opW o))), some (.vl (.list [a.data, b.data]))]
    have hjs : rJs [fun _ => some "(", rFmt (rCall 1 (m_show_expression n) (aCons (rE2 fIx (rVar 2) (rC (.int 0))) aNil)), rFmt (rE1 (lookF tSIGNS) (rVar 1)), rFmt (rCall 1 (m_show_expression n) (aCons (rE2 fIx (rVar 2) (rC (.int 1))) aNil)), fun _ => some ")"] ρ = some (.str (Ex.text (.pair o a b))) := by
      have key : jsD [fun _ => some "(", rFmt (rCall 1 (m_show_expression n) (aCons (rE2 fIx (rVar 2) (rC (.int 0))) aNil)), rFmt (rE1 (lookF tSIGNS) (rVar 1)), rFmt (rCall 1 (m_show_expression n) (aCons (rE2 fIx (rVar 2) (rC (.int 1))) aNil)), fun _ => some ")"] Str.empty ρ = some (Ex.text (.pair o a b)) := by
        refine js_cons (y := "(") rfl ?_ (js_cons (y := a.text) (rFmt_ok (rCall_ok (ds := [a.data]) rfl rfl ia) (by omega)) ?_ (js_cons (y := opS o) (rFmt_ok (e1_ok (x := .str (opW o)) rfl (op_sign ho)) (by rw [len_op]; decide)) ?_ (js_cons (y := b.text) (rFmt_ok (rCall_ok (ds := [b.data]) rfl rfl ib) (by omega)) ?_ (js_cons (y := ")") rfl ?_ ?_))))
        · rw [empty_app, len_lp]; decide
        · rw [empty_app, len_app, len_lp]; omega
        · rw [empty_app, len_app, len_app, len_lp, len_op]; omega
        · rw [empty_app, len_app, len_app, len_app, len_lp, len_op]; omega
        · rw [empty_app, len_app, len_app, len_app, len_app, len_lp, len_op, len_rp]; omega
        · rw [empty_app]
          rfl
      unfold rJs
      rw [key]
      rfl
    exact runB_rt ((sSeq_nx (sIf_nx rfl)).trans ((sSeq_nx (ρ' := ρ) rfl).trans ((sSeq_nx (sIf_nx (tVal_of (e2_ok (x := .str (opW o)) rfl rfl (op_var ho))))).trans ((sSeq_nx (sIf_nx (tVal_of (e2_ok (x := .str (opW o)) rfl rfl (op_cell ho))))).trans (sRet_ok hjs)))))
/-! ### is_expression -/
theorem one_of0 : (varsMenu.all fun vs => vs.all fun x => isO (m_is_one_of [.str x, tupS vs]) (.bool true)) = true := by decide +kernel
theorem k_lt {k : Int} (h : 1 ≤ k) : fLt (.int k) (.int 1) = some (.bool false) := by
  show some (PyData.bool (decide (k < 1))) = _
  rw [decide_eq_false (by omega)]
theorem dk_ok0 : (decide (["variable", "cell"] : List Str).Nodup && decide (2 ≤ 15)) = true := by decide +kernel
theorem is_ex {vs : List Str} (hvs : vs ∈ varsMenu) : ∀ (j : Nat) (e : Ex) (n : Nat) (k : Int), EOk vs j e → j ≤ n → (j : Int) ≤ k → m_is_expression n [e.data, tupS vs, .tuple [], .int k] = some (.bool true)
  | 0, _, _, _, h, _, _ => h.elim
  | j + 1, e, 0, _, _, h, _ => by omega
  | j + 1, .num i, n + 1, k, h, _, hk => runB_rt ((sSeq_nx (sIf_nx (tVal_of (e2_ok (x := .int k) rfl rfl (k_lt (by omega)))))).trans (sSeq_rt ((sIf_t rfl).trans (sRet_ok (rCall_ok (ds := [.int i]) rfl rfl (const_f h).2.2.1)))))
  | j + 1, .var x, n + 1, k, h, _, hk => by
    have ho := isO_ok (List.all_eq_true.mp (List.all_eq_true.mp one_of0 vs hvs) x h)
    let D : PyData := .tuple [.str "variable", .str x]
    let m : List (Str × PyData) := [("variable", tupS vs), ("cell", .tuple [])]
    let ρ1 : Sl := [some (.vl D), some (.vl (tupS vs)), some (.vl (.tuple [])), some (.vl (.int k)), some (.vl (.str "variable")), none, some (.vl (.list [.str x])), none]
    let ρ2 : Sl := [some (.vl D), some (.vl (tupS vs)), some (.vl (.tuple [])), some (.vl (.int k)), some (.vl (.str "variable")), some (.dk m), some (.vl (.list [.str x])), none]
    have hdk : okDisp m = true := by
      exact dk_ok0
    have h5 : sDk 5 (dCons "variable" (rVar 1) (dCons "cell" (rVar 2) dNil)) ρ1 = some (.nx ρ2) := by
      show (if okDisp m = true then some (Fl.nx (ρ1.set 5 (some (.dk m)))) else none) = _
      rw [if_pos hdk]
      rfl
    have hfind : findD "variable" m = some (tupS vs) := if_pos rfl
    have hin : rDkIn 5 (rVar 4) ρ2 = some (.bool true) := by
      show some (PyData.bool (findD "variable" m).isSome) = _
      rw [hfind]
      rfl
    have hget : rDkGet 5 (rVar 4) ρ2 = some (tupS vs) := hfind
    have h2 : fIn true (.int 2) (.tuple [.int 2, .int 3]) = some (.bool false) := isO_ok (by decide +kernel)
    have hend := (sSeq_nx (b := sRet (rAnd (rDkIn 5 (rVar 4)) (rCall 2 m_is_one_of (aCons (rE2 fIx (rVar 6) (rC (.int 0))) (aCons (rDkGet 5 (rVar 4)) aNil))))) h5).trans (sRet_ok (rAnd_t hin (rCall_ok (ds := [.str x, tupS vs]) (aC_ok rfl (aC_ok hget rfl)) rfl ho)))
    refine runB_rt ((sSeq_nx (sIf_nx (tVal_of (e2_ok (x := .int k) rfl rfl (k_lt (by omega)))))).trans ((sSeq_nx (sIf_nx rfl)).trans ((sSeq_nx (sIf_nx (tOr_ok (x := false) (y := false) rfl (tOr_ok (x := false) (y := false) (tVal_of (e2_ok (x := .int 2) rfl rfl h2)) rfl)))).trans ((sSeq_nx (ρ' := ρ1) rfl).trans (sSeq_rt ((sIf_t rfl).trans hend))))))
  | j + 1, .pair o a b, n + 1, k, h, hn, hk => by
    obtain ⟨ho, h2, ha, hb⟩ := h
    have ia := is_ex hvs j a n (k - 1) ha (by omega) (by omega)
    have ib := is_ex hvs j b n (k - 1) hb (by omega) (by omega)
    let D : PyData := .tuple [.str (opW o), a.data, b.data]
    let ρ1 : Sl := [some (.vl D), some (.vl (tupS vs)), some (.vl (.tuple [])), some (.vl (.int k)), some (.vl (.str (opW o))), none, some (.vl (.list [a.data, b.data])), none]
    have h3 : fIn true (.int 3) (.tuple [.int 2, .int 3]) = some (.bool false) := isO_ok (by decide +kernel)
    refine runB_rt ((sSeq_nx (sIf_nx (tVal_of (e2_ok (x := .int k) rfl rfl (k_lt (by omega)))))).trans ((sSeq_nx (sIf_nx rfl)).trans ((sSeq_nx (sIf_nx (tOr_ok (x := false) (y := false) rfl (tOr_ok (x := false) (y := false) (tVal_of (e2_ok (x := .int 3) rfl rfl h3)) rfl)))).trans ((sSeq_nx (ρ' := ρ1) rfl).trans ((sSeq_nx (sIf_nx rfl)).trans ?_)))))
    by_cases q : o = 2
    · obtain ⟨i, rfl⟩ := h2 q
      have hi : i ∈ constsE := by
        cases j with
        | zero => exact ha.elim
        | succ j => exact ha
      exact sSeq_rt ((sIf_t (tVal_of (e2_ok (x := .str (opW o)) rfl rfl ((op_times ho).trans (by rw [decide_eq_true q]))))).trans (sRet_ok (rAnd_t (rCall_ok (ds := [.int i]) rfl rfl (const_f hi).2.2.1) (rCall_ok (ds := [b.data, tupS vs, .tuple [], .int (k - 1)]) rfl rfl ib))))
    · have hlc := lc_ok (src := aList (rVar 6)) (g := gN 7) (e := rCall 4 (m_is_expression n) (aCons (rVar 7) (aCons (rVar 1) (aCons (rVar 2) (aCons (rE2 fSub (rVar 3) (rC (.int 1))) aNil))))) (vs := [7]) (ρ := ρ1) (xs := [a, b]) (h := Ex.data) (f := fun _ => .bool true) rfl (Nat.le_of_ble_eq_true rfl) fun x hx => ⟨[(7, x.data)], rfl, rCall_ok (ds := [x.data, tupS vs, .tuple [], .int (k - 1)]) rfl rfl (by
        simp only [List.mem_cons, List.not_mem_nil, or_false] at hx
        rcases hx with rfl | rfl
        · exact ia
        · exact ib)⟩
      exact (sSeq_nx (sIf_nx (tVal_of (e2_ok (x := .str (opW o)) rfl rfl ((op_times ho).trans (by rw [decide_eq_false q])))))).trans ((sSeq_nx (sIf_nx (tVal_of (e2_ok (x := .str (opW o)) rfl rfl (op_pm ho q))))).trans (sRet_ok (rA_ok (aC_ok hlc rfl) (all_t [a, b]))))
end K73

set_option maxHeartbeats 2000000
namespace K73
open PySem PySem.Spec PyProof.Rows L2 Pd
/-- the reader stands ahead of suf -/
structure Rs (t : Str) (suf : List Nat) (s : RdS) : Prop where
  tx : s.text = t
  pl : s.place ≤ (TL.tl t).length
  sf : (TL.tl t).drop s.place = suf
theorem cut_tl {z : Str} {p k : Nat} (hp : p ≤ (TL.tl z).length) : TL.tl (cutS z (some (p : Int)) (some ((p + k : Nat) : Int))) = ((TL.tl z).drop p).take k := by
  have e : (TL.tl z).length = z.cps.toList.length := rfl
  unfold cutS
  rw [HT.sIx_nat, HT.sIx_nat, TL.len_tl, TL.tl_mk, Nat.min_eq_left hp]
  by_cases h : p + k ≤ (TL.tl z).length
  · rw [Nat.min_eq_left h]
    congr 1
    omega
  · rw [Nat.min_eq_right (by omega), List.take_of_length_le (by rw [List.length_drop]; omega), List.take_of_length_le (by rw [List.length_drop]; omega)]
theorem len_ok {w : Str} {ρ : Sl} {a : E1} (ha : a ρ = some (.str w)) (h : w.length ≤ 16777216) : rA fLen (aCons a aNil) ρ = some (.int (w.length : Nat)) := by
  refine rA_ok (aC_ok ha rfl) ?_
  show (if w.length ≤ 16777216 then some (PyData.int (w.length : Nat)) else none) = _
  rw [if_pos h]
theorem cut_ok {z : Str} {p q : Int} (h : z.length ≤ 16777216) : fCut (.str z) (some p) (some q) = some (.str (cutS z (some p) (some q))) := by
  show (if z.length ≤ 16777216 then some (PyData.str (cutS z (some p) (some q))) else none) = _
  rw [if_pos h]
section
variable {t : Str} {suf rest : List Nat} {s : RdS} {W : PyData → RdS → Prop}
theorem Rs.len (h : Rs t suf s) : s.place + suf.length = (TL.tl t).length := by
  rw [← h.sf, List.length_drop]
  have := h.pl
  omega
theorem Rs.move (h : Rs t (suf ++ rest) s) : Rs t rest { s with place := s.place + suf.length } := by
  have := h.len
  rw [List.length_append] at this
  refine ⟨h.tx, by show s.place + suf.length ≤ _; omega, ?_⟩
  show (TL.tl t).drop (s.place + suf.length) = rest
  rw [← List.drop_drop, h.sf, List.drop_left]
theorem starts_ok {w : Str} (h : Rs t suf s) (ht : t.length ≤ 16777216) (hw : w.length ≤ 16777216) (hW : ∀ b : Bool, b = decide (suf.take w.length = TL.tl w) → W (.bool b) s) : mM_starts [.str w] s W := by
  obtain ⟨h1, h2, h3⟩ := h
  refine ⟨s.place, rfl, .int (w.length : Nat), len_ok rfl hw, .int ((s.place : Int) + (w.length : Nat)), rfl, (s.place : Int) + (w.length : Nat), .str (cutS s.text (some (s.place : Int)) (some ((s.place : Int) + (w.length : Nat)))), rfl, cut_ok (by rw [h1]; exact ht), .str w, rfl, .bool (decide (cutS s.text (some (s.place : Int)) (some ((s.place : Int) + (w.length : Nat))) = w)), rfl, hW _ ?_⟩
  have e : TL.tl (cutS s.text (some (s.place : Int)) (some ((s.place : Int) + (w.length : Nat)))) = suf.take w.length := by
    rw [show (s.place : Int) + (w.length : Nat) = ((s.place + w.length : Nat) : Int) by omega, h1, cut_tl h2, h3]
  rw [← e]
  by_cases q : cutS s.text (some (s.place : Int)) (some ((s.place : Int) + (w.length : Nat))) = w
  · rw [decide_eq_true q, decide_eq_true (by rw [q])]
  · rw [decide_eq_false q, decide_eq_false fun z => q (TL.ext_tl z)]
theorem take_self (w : Str) (rest : List Nat) : (TL.tl w ++ rest).take w.length = TL.tl w := by
  rw [TL.len_tl, List.take_left]
theorem take_ok {w : Str} (h : Rs t (TL.tl w ++ rest) s) (ht : t.length ≤ 16777216) (hw : w.length ≤ 16777216) (hW : ∀ s', Rs t rest s' → W .none s') : mM_take [.str w] s W := by
  refine ⟨[.str w], rfl, rfl, starts_ok h ht hw fun b hb => ⟨b, rfl, ?_⟩⟩
  rw [take_self, decide_eq_true rfl] at hb
  subst hb
  refine ifs (fun z => by cases z) fun _ => ⟨.int (w.length : Nat), len_ok rfl hw, w.length, rfl, rfl, hW _ ?_⟩
  have := h.move
  rw [← TL.len_tl] at this
  exact this
/-- one of the three signs -/
theorem one_ok {o : Nat} (ho : o < 3) (h : Rs t (TL.tl (opS o) ++ rest) s) (ht : t.length ≤ 16777216) (hW : ∀ s', Rs t rest s' → W (.str (opS o)) s') : mM_take_one [.list [.str " + ", .str " - ", .str " * "]] s W := by
  have l0 : ((" + " : Str)).length ≤ 16777216 := by decide +kernel
  have l1 : ((" - " : Str)).length ≤ 16777216 := by decide +kernel
  have l2 : ((" * " : Str)).length ≤ 16777216 := by decide +kernel
  have tk : ∀ w : Str, w.length = 3 → (TL.tl (opS o) ++ rest).take w.length = TL.tl (opS o) := fun w hw => by
    rw [hw, ← len_op o, take_self]
  refine ⟨[.str " + ", .str " - ", .str " * "], rfl, [(2, .str " + ")], rfl, [.str " + "], rfl, rfl, starts_ok h ht l0 fun b hb => ⟨b, rfl, ?_⟩⟩
  rw [tk _ (by decide +kernel)] at hb
  rcases op_cases ho with rfl | rfl | rfl
  · have : b = true := hb.trans (by decide +kernel)
    subst this
    exact ifs (fun _ => ⟨[.str " + "], rfl, rfl, take_ok h ht l0 fun s' h' => ⟨.str " + ", rfl, hW s' h'⟩⟩) fun z => by cases z
  · have : b = false := hb.trans (by decide +kernel)
    subst this
    refine ifs (fun z => by cases z) fun _ => ⟨[(2, .str " - ")], rfl, [.str " - "], rfl, rfl, starts_ok h ht l1 fun b hb => ⟨b, rfl, ?_⟩⟩
    rw [tk _ (by decide +kernel)] at hb
    have : b = true := hb.trans (by decide +kernel)
    subst this
    exact ifs (fun _ => ⟨[.str " - "], rfl, rfl, take_ok h ht l1 fun s' h' => ⟨.str " - ", rfl, hW s' h'⟩⟩) fun z => by cases z
  · have : b = false := hb.trans (by decide +kernel)
    subst this
    refine ifs (fun z => by cases z) fun _ => ⟨[(2, .str " - ")], rfl, [.str " - "], rfl, rfl, starts_ok h ht l1 fun b hb => ⟨b, rfl, ?_⟩⟩
    rw [tk _ (by decide +kernel)] at hb
    have : b = false := hb.trans (by decide +kernel)
    subst this
    refine ifs (fun z => by cases z) fun _ => ⟨[(2, .str " * ")], rfl, [.str " * "], rfl, rfl, starts_ok h ht l2 fun b hb => ⟨b, rfl, ?_⟩⟩
    rw [tk _ (by decide +kernel)] at hb
    have : b = true := hb.trans (by decide +kernel)
    subst this
    exact ifs (fun _ => ⟨[.str " * "], rfl, rfl, take_ok h ht l2 fun s' h' => ⟨.str " * ", rfl, hW s' h'⟩⟩) fun z => by cases z
theorem end_ok (h : Rs t [] s) (ht : t.length ≤ 16777216) (hW : W .none s) : mM_take_end [] s W := by
  have hp : s.place = s.text.length := by
    have := h.len
    rw [h.tx, TL.len_tl]
    simpa using this
  refine ⟨.int (s.text.length : Nat), by show (if s.text.length ≤ 16777216 then some (PyData.int (s.text.length : Nat)) else none) = _; rw [h.tx, if_pos ht], .bool (!decide ((s.place : Int) = (s.text.length : Nat))), rfl, _, rfl, ?_⟩
  rw [hp, decide_eq_true rfl]
  exact ifs (fun z => by cases z) fun _ => hW
end
end K73

set_option maxHeartbeats 2000000
namespace K73
open PySem PySem.Spec PyProof.Rows L2 Pd
section
variable {t : Str} {suf rest : List Nat} {s : RdS} {W : PyData → RdS → Prop}
theorem ix_str {c : Nat} {z : Str} {p : Nat} (hz : z.length ≤ 16777216) (h : (TL.tl z).drop p = c :: rest) : fIx (.str z) (.int (p : Int)) = some (.str ⟨#[c]⟩) := by
  have hg : z.cps.toList[p]? = some c := by
    have h2 : (TL.tl z)[p]? = ((TL.tl z).drop p)[0]? := by rw [List.getElem?_drop, Nat.add_zero]
    rw [h] at h2
    exact h2
  show (none : Option PyData).or ((none : Option PyData).or (if z.length ≤ 16777216 then (atI z.cps.toList (p : Int)).map fun c => PyData.str ⟨#[c]⟩ else none)) = _
  rw [if_pos hz, atI_nat hg]
  rfl
def tRun : TN RdS := nAnd (nVal (nE2 fLt nPlace (nA fLen (nCons nText nNil)))) (nVal (nE2 (fIn false) (nE2 fIx nText nPlace) (nL (rVar 1))))
def bRun : BN RdS := nMove (nL (rC (.int 1)))
theorem in_sign (c : Nat) (z : Str) : fIn false (.str ⟨#[c]⟩) (.str z) = some (.bool (decide (c ∈ z.cps.toList))) := rfl
theorem run_loop {z : Str} {x2 : Option Cell} (ht : t.length ≤ 16777216) (hend : ∀ c, rest.head? = some c → c ∉ TL.tl z) : ∀ (run : List Nat) (n : Nat) (s : RdS) (K : Fl → RdS → Prop), run.length < n → Rs t (run ++ rest) s → (∀ c ∈ run, c ∈ TL.tl z) →
    (∀ s', Rs t rest s' → s'.place = s.place + run.length → K (.nx [none, some (.vl (.str z)), x2]) s') → whN tRun bRun n [none, some (.vl (.str z)), x2] s K
  | [], 0, _, _, h, _, _, _ => by simp at h
  | _ :: _, 0, _, _, h, _, _, _ => by simp at h
  | [], n + 1, s, K, _, h, _, hK => by
    have hlen := h.len
    rw [List.nil_append] at h hlen
    have htx : s.text.length ≤ 16777216 := by rw [h.tx]; exact ht
    refine ⟨.int (s.text.length : Nat), by show (if s.text.length ≤ 16777216 then some (PyData.int (s.text.length : Nat)) else none) = _; rw [if_pos htx], .bool (decide ((s.place : Int) < (s.text.length : Nat))), rfl, _, rfl, ifs (fun hq => ?_) (fun hq => ?_)⟩
    · cases hr : rest with
      | nil =>
        have hq' : (s.place : Int) < (s.text.length : Nat) := of_decide_eq_true hq
        rw [h.tx, TL.len_tl, ← hlen, hr] at hq'
        simp at hq'
      | cons c r =>
        have hix : fIx (.str s.text) (.int (s.place : Int)) = some (.str ⟨#[c]⟩) := ix_str (rest := r) htx (by rw [h.tx, h.sf, hr])
        have hc : c ∉ TL.tl z := hend c (by rw [hr]; rfl)
        refine ⟨.str ⟨#[c]⟩, hix, .str z, rfl, .bool (decide (c ∈ z.cps.toList)), in_sign c z, _, rfl, ifs (fun hm => absurd (of_decide_eq_true hm) hc) fun _ => hK s h rfl⟩
    · exact ifs (fun z => by cases z) fun _ => hK s h rfl
  | c :: run, n + 1, s, K, hn, h, hin, hK => by
    have hlen := h.len
    have htx : s.text.length ≤ 16777216 := by rw [h.tx]; exact ht
    have hpl : (s.place : Int) < (s.text.length : Nat) := by
      rw [h.tx, TL.len_tl, ← hlen, List.cons_append, List.length_cons]
      omega
    have hix : fIx (.str s.text) (.int (s.place : Int)) = some (.str ⟨#[c]⟩) := ix_str (rest := run ++ rest) htx (by rw [h.tx, h.sf]; rfl)
    have hc : c ∈ z.cps.toList := hin c (List.mem_cons_self ..)
    refine ⟨.int (s.text.length : Nat), by show (if s.text.length ≤ 16777216 then some (PyData.int (s.text.length : Nat)) else none) = _; rw [if_pos htx], .bool (decide ((s.place : Int) < (s.text.length : Nat))), rfl, _, rfl, ifs (fun _ => ?_) (fun hq => absurd hpl (of_decide_eq_false hq))⟩
    refine ⟨.str ⟨#[c]⟩, hix, .str z, rfl, .bool (decide (c ∈ z.cps.toList)), in_sign c z, _, rfl, ifs (fun _ => ?_) (fun hm => absurd hc (of_decide_eq_false hm))⟩
    have hmv : Rs t (run ++ rest) { s with place := s.place + 1 } := Rs.move (suf := [c]) (rest := run ++ rest) h
    refine ⟨.int 1, rfl, 1, rfl, rfl, ?_⟩
    exact run_loop ht hend run n _ K (by rw [List.length_cons] at hn; omega) hmv (fun d hd => hin d (List.mem_cons_of_mem _ hd)) fun s' h' hp => hK s' h' (by rw [hp]; show s.place + 1 + run.length = s.place + (run.length + 1); omega)
theorem run_ok {z : Str} {run : List Nat} (h : Rs t (run ++ rest) s) (ht : t.length ≤ 16777216) (hin : ∀ c ∈ run, c ∈ TL.tl z) (hend : ∀ c, rest.head? = some c → c ∉ TL.tl z) (hl : run.length < 100) (hW : ∀ s', Rs t rest s' → W (.str ⟨run.toArray⟩) s') : mM_take_run [.str z] s W := by
  refine ⟨_, rfl, ?_⟩
  refine run_loop (x2 := some (.vl (.int (s.place : Nat)))) ht hend run 100 s _ hl h hin fun s' h' hp => ?_
  refine ⟨.int (s.place : Nat), rfl, s.place, rfl, s'.place, .str (cutS s'.text (some (s.place : Int)) (some (s'.place : Int))), rfl, cut_ok (by rw [h'.tx]; exact ht), ?_⟩
  have e : cutS s'.text (some (s.place : Int)) (some (s'.place : Int)) = ⟨run.toArray⟩ := TL.ext_tl (by
    rw [h'.tx, hp, cut_tl h.pl, h.sf, TL.tl_mk, List.take_left])
  rw [e]
  exact hW s' h'
/-- what may stand behind an expression -/
def Delim (rest : List Nat) : Prop := ∀ c, rest.head? = some c → c = 32 ∨ c = 41
theorem name_in_ok {x : Str} (hx : x ∈ varsM) (h : Rs t (TL.tl x ++ rest) s) (ht : t.length ≤ 16777216) (hd : Delim rest) (hW : ∀ s', Rs t rest s' → W (.str x) s') : mM_take_name [] s W := by
  have hin : ∀ x ∈ varsM, ∀ c ∈ TL.tl x, c ∈ TL.tl ("abcdefghijklmnopqrstuvwxyz" : Str) := by decide +kernel
  have hnd : 32 ∉ TL.tl ("abcdefghijklmnopqrstuvwxyz" : Str) ∧ 41 ∉ TL.tl ("abcdefghijklmnopqrstuvwxyz" : Str) := by decide +kernel
  refine ⟨[.str "abcdefghijklmnopqrstuvwxyz"], rfl, rfl, run_ok h ht (hin x hx) (fun c hc => ?_) ?_ fun s' h' => ⟨_, rfl, ?_⟩⟩
  · rcases hd c hc with rfl | rfl
    · exact hnd.1
    · exact hnd.2
  · have := (var_f hx).2.2.2
    rw [TL.len_tl] at this
    omega
  · have e : (⟨(TL.tl x).toArray⟩ : Str) = x := TL.mk_tl x
    rw [e]
    refine ⟨false, tNot_ok (x := true) (tVal_of (rCall_ok (ds := [.str x]) rfl rfl (var_f hx).1)), ifs (fun z => by cases z) fun _ => ⟨.str x, rfl, hW s' h'⟩⟩
/-! ### numbers -/
def sgS (i : Int) : Str := if i < 0 then "-" else ""
def dgS (i : Int) : Str := iStr' i.natAbs
def ltD0 (i : Int) : Option Bool := tAndD (tVal (rE2 fEq (rE2 fIx (rVar 2) (rC (.int 0))) (rC (.str "0")))) (tVal (rE2 fNe (rE2 fAdd (rVar 1) (rVar 2)) (rC (.str "0")))) [none, some (.vl (.str (sgS i))), some (.vl (.str (dgS i)))]
def headB (l bad : List Nat) : Bool := match l.head? with
  | some c => !bad.contains c
  | none => false
theorem headB_ok {l bad : List Nat} (h : headB l bad = true) : ∃ c r, l = c :: r ∧ c ∉ bad := by
  cases l with
  | nil => cases h
  | cons c r =>
    have h' : (!bad.contains c) = true := h
    exact ⟨c, r, rfl, fun hm => by rw [List.contains_iff_mem.mpr hm] at h'; cases h'⟩
def okInt (i : Int) : Bool := decide (TL.tl (iStr' i) = TL.tl (sgS i) ++ TL.tl (dgS i)) && ((TL.tl (dgS i)).all (fun c => decide (c ∈ TL.tl ("0123456789" : Str))) && (Nat.ble (dgS i).length 7 && (Nat.ble 1 (dgS i).length && (isO (fInt [.str (sgS i ++ dgS i)]) (.int i) && (decide (ltD0 i = some false) && (headB (TL.tl (dgS i)) [45] && headB (TL.tl (iStr' i)) (40 :: 64 :: TL.tl ("abcdefghijklmnopqrstuvwxyz" : Str))))))))
theorem int0 : constsE.all okInt = true := by decide +kernel
theorem chain7 {n : Nat} {ρ : Sl} {a : E1} (ha : a ρ = some (.int (n : Int))) (h1 : 1 ≤ n) (h7 : n ≤ 7) : rChain fLe fLe (rC (.int 1)) a (rC (.int 7)) ρ = some (.bool true) := by
  unfold rChain
  rw [ha]
  show (match some (PyData.bool (decide ((1 : Int) ≤ (n : Int)))) with
    | some (.bool true) => some (PyData.bool (decide ((n : Int) ≤ 7)))
    | some (.bool false) => some (.bool false)
    | _ => none) = _
  rw [decide_eq_true (by omega), decide_eq_true (by omega)]
theorem int_in_ok {i : Int} (hi : i ∈ constsE) (h : Rs t (TL.tl (iStr' i) ++ rest) s) (ht : t.length ≤ 16777216) (hd : Delim rest) (hW : ∀ s', Rs t rest s' → W (.int i) s') : mM_take_integer [] s W := by
  have z := List.all_eq_true.mp int0 i hi
  unfold okInt at z
  simp only [Bool.and_eq_true, decide_eq_true_eq] at z
  obtain ⟨z1, z2, z3, z4, z5, z6, z7, z8⟩ := z
  have hdig : 32 ∉ TL.tl ("0123456789" : Str) ∧ 41 ∉ TL.tl ("0123456789" : Str) := by decide +kernel
  obtain ⟨c, r, hc, hnc⟩ := headB_ok z7
  rw [z1, List.append_assoc] at h
  have lm : ("-" : Str).length = 1 := by decide +kernel
  have tm : TL.tl ("-" : Str) = [45] := by decide +kernel
  have sgl : (sgS i).length ≤ 16777216 := by
    unfold sgS
    split <;> decide +kernel
  refine ⟨[.str "-"], rfl, rfl, starts_ok (w := "-") h ht (by rw [lm]; decide) fun b hb => ⟨b, rfl, ?_⟩⟩
  have hb' : b = decide (i < 0) := by
    rw [lm, tm] at hb
    by_cases q : i < 0
    · have e : sgS i = "-" := if_pos q
      rw [e, tm] at hb
      rw [decide_eq_true q]
      exact hb.trans (decide_eq_true rfl)
    · have e : sgS i = "" := if_neg q
      have e2 : TL.tl ("" : Str) = [] := by decide +kernel
      rw [e, e2, hc] at hb
      rw [decide_eq_false q]
      refine hb.trans (decide_eq_false fun zz => ?_)
      have : c = 45 := by simpa using zz
      exact hnc (by rw [this]; exact List.mem_singleton.mpr rfl)
  have key : ∀ s1, Rs t (TL.tl (sgS i) ++ (TL.tl (dgS i) ++ rest)) s1 → (nSeq (nDrop (nCall 1 mM_take (nAL (aCons (rVar 1) aNil)))) (nSeq (nAsg (gN 2) (nCall 1 mM_take_run (nAL (aCons (rC (.str "0123456789")) aNil)))) (nSeq (nIfS (nTL (tOrD (tNotD (tVal (rChain fLe fLe (rC (.int 1)) (rA fLen (aCons (rVar 2) aNil)) (rC (.int 7))))) (tAndD (tVal (rE2 fEq (rE2 fIx (rVar 2) (rC (.int 0))) (rC (.str "0")))) (tVal (rE2 fNe (rE2 fAdd (rVar 1) (rVar 2)) (rC (.str "0"))))))) nNever nNext) (nRet (nL (rA fInt (aCons (rE2 fAdd (rVar 1) (rVar 2)) aNil)))))))
      [none, some (.vl (.str (sgS i))), none] s1 (fun fl s' => match fl with
        | .rt d => W d s'
        | .nx _ => W .none s'
        | _ => False) := fun s1 h1 => by
    refine ⟨[.str (sgS i)], rfl, rfl, take_ok h1 ht sgl fun s2 h2 => ?_⟩
    refine ⟨[.str "0123456789"], rfl, rfl, run_ok h2 ht (fun c hc => of_decide_eq_true (List.all_eq_true.mp z2 c hc)) (fun c hc => ?_) ?_ fun s3 h3 => ⟨_, rfl, ?_⟩⟩
    · rcases hd c hc with rfl | rfl
      · exact hdig.1
      · exact hdig.2
    · have := Nat.le_of_ble_eq_true z3
      rw [TL.len_tl] at this
      omega
    · have e : (⟨(TL.tl (dgS i)).toArray⟩ : Str) = dgS i := TL.mk_tl _
      rw [e]
      have l7 := Nat.le_of_ble_eq_true z3
      have l1 := Nat.le_of_ble_eq_true z4
      refine ⟨false, tOr_ok (x := false) (y := false) (tNot_ok (x := true) (tVal_of (chain7 (n := (dgS i).length) (len_ok rfl (by omega)) l1 l7))) z6, ifs (fun z => by cases z) fun _ => ?_⟩
      have sl : (sgS i).length ≤ 1 := by
        unfold sgS
        split <;> decide +kernel
      exact ⟨.int i, rA_ok (aC_ok (e2_ok (x := .str (sgS i)) rfl rfl (add_str (by omega))) rfl) (isO_ok z5), hW s3 h3⟩
  subst hb'
  refine ifs (fun hq => ?_) (fun hq => ?_)
  · have q : i < 0 := of_decide_eq_true hq
    have e : sgS i = "-" := if_pos q
    refine ⟨.str "-", rfl, _, rfl, ?_⟩
    have := key s h
    rw [e] at this
    exact this
  · have q : ¬ i < 0 := of_decide_eq_false hq
    have e : sgS i = "" := if_neg q
    refine ⟨.str "", rfl, _, rfl, ?_⟩
    have := key s h
    rw [e] at this
    exact this
end
end K73

set_option maxHeartbeats 2000000
namespace K73
open PySem PySem.Spec PyProof.Rows L2 Pd
theorem lcD_skip {step : PyData → Option (Option PyData)} {d : PyData} {r : List PyData} (h : step d = some none) : lcD step (d :: r) = lcD step r := by
  show (match step d with
    | some (some x) => (lcD step r).map fun xs => x :: xs
    | some none => lcD step r
    | none => none) = _
  rw [h]
theorem lcD_take {step : PyData → Option (Option PyData)} {d x : PyData} {r : List PyData} (h : step d = some (some x)) : lcD step (d :: r) = (lcD step r).map fun xs => x :: xs := by
  show (match step d with
    | some (some x) => (lcD step r).map fun xs => x :: xs
    | some none => lcD step r
    | none => none) = _
  rw [h]
theorem word_ev {o : Nat} (ho : o < 3) (x2 x3 x5 x6 x7 : Option Cell) : rE2 fIx (rItems 1 (gT [6, 7]) (tVal (rE2 fEq (rVar 7) (rVar 4))) (rVar 6) [6, 7]) (rC (.int 0)) [none, some (.dk tSIGNS), x2, x3, some (.vl (.str (opS o))), x5, x6, x7] = some (.str (opW o)) := by
  refine e2_ok (x := .list [.str (opW o)]) (y := .int 0) ?_ rfl (ix_l (j := 0) rfl)
  let ρ : Sl := wipeD (lockD 1 tSIGNS [none, some (.dk tSIGNS), x2, x3, some (.vl (.str (opS o))), x5, x6, x7]) [6, 7]
  let step := lcStep (gT [6, 7]) (tVal (rE2 fEq (rVar 7) (rVar 4))) (rVar 6) ρ
  have hs : ∀ (w sg : Str) (b : Bool), fEq (.str sg) (.str (opS o)) = some (.bool b) → step (.tuple [.str w, .str sg]) = some (if b then some (.str w) else none) := fun w sg b h => by
    have e4 : rVar 4 (setD ρ [(6, .str w), (7, .str sg)]) = some (.str (opS o)) := rfl
    have e7 : rVar 7 (setD ρ [(6, .str w), (7, .str sg)]) = some (.str sg) := rfl
    have ht : tVal (rE2 fEq (rVar 7) (rVar 4)) (setD ρ [(6, .str w), (7, .str sg)]) = some b := tVal_of (e2_ok e7 e4 h)
    show (match tVal (rE2 fEq (rVar 7) (rVar 4)) (setD ρ [(6, .str w), (7, .str sg)]) with
      | some true => (rVar 6 (setD ρ [(6, .str w), (7, .str sg)])).map some
      | some false => some none
      | none => none) = _
    rw [ht]
    cases b <;> rfl
  have hl : lcD step [.tuple [.str "plus", .str " + "], .tuple [.str "minus", .str " - "], .tuple [.str "times", .str " * "]] = some [.str (opW o)] := by
    rcases op_cases ho with rfl | rfl | rfl
    · rw [lcD_take (hs "plus" " + " true (isO_ok (by decide +kernel))), lcD_skip (hs "minus" " - " false (isO_ok (by decide +kernel))), lcD_skip (hs "times" " * " false (isO_ok (by decide +kernel)))]
      rfl
    · rw [lcD_skip (hs "plus" " + " false (isO_ok (by decide +kernel))), lcD_take (hs "minus" " - " true (isO_ok (by decide +kernel))), lcD_skip (hs "times" " * " false (isO_ok (by decide +kernel)))]
      rfl
    · rw [lcD_skip (hs "plus" " + " false (isO_ok (by decide +kernel))), lcD_skip (hs "minus" " - " false (isO_ok (by decide +kernel))), lcD_take (hs "times" " * " true (isO_ok (by decide +kernel)))]
      rfl
  show (if 3 ≤ 16000000 then (lcD step [.tuple [.str "plus", .str " + "], .tuple [.str "minus", .str " - "], .tuple [.str "times", .str " * "]]).map PyData.list else none) = _
  rw [if_pos (by decide), hl]
  rfl
theorem tl_lp : TL.tl ("(" : Str) = [40] := by decide +kernel
theorem tl_rp : TL.tl (")" : Str) = [41] := by decide +kernel
theorem tl_at : TL.tl ("@" : Str) = [64] := by decide +kernel
theorem len_at : ("@" : Str).length = 1 := by decide +kernel
theorem op_head {o : Nat} (ho : o < 3) : ∃ r, TL.tl (opS o) = 32 :: r := by
  rcases op_cases ho with rfl | rfl | rfl
  · exact ⟨[43, 32], by decide +kernel⟩
  · exact ⟨[45, 32], by decide +kernel⟩
  · exact ⟨[42, 32], by decide +kernel⟩
theorem var_head {x : Str} (hx : x ∈ varsM) : ∃ c r, TL.tl x = c :: r ∧ c ≠ 40 ∧ c ≠ 64 ∧ c ∈ TL.tl ("abcdefghijklmnopqrstuvwxyz" : Str) := by
  have h0 : ∀ x ∈ varsM, (match TL.tl x with
    | c :: _ => c != 40 && (c != 64 && decide (c ∈ TL.tl ("abcdefghijklmnopqrstuvwxyz" : Str)))
    | [] => false) = true := by decide +kernel
  have h1 := h0 x hx
  cases q : TL.tl x with
  | nil => rw [q] at h1; cases h1
  | cons c r =>
    rw [q] at h1
    simp only [Bool.and_eq_true, bne_iff_ne, decide_eq_true_eq] at h1
    exact ⟨c, r, rfl, h1.1, h1.2.1, h1.2.2⟩
theorem num_head {i : Int} (hi : i ∈ constsE) : ∃ c r, TL.tl (iStr' i) = c :: r ∧ c ≠ 40 ∧ c ≠ 64 ∧ c ∉ TL.tl ("abcdefghijklmnopqrstuvwxyz" : Str) := by
  have z := List.all_eq_true.mp int0 i hi
  unfold okInt at z
  simp only [Bool.and_eq_true] at z
  obtain ⟨c, r, h1, h2⟩ := headB_ok z.2.2.2.2.2.2.2
  simp only [List.mem_cons, not_or] at h2
  exact ⟨c, r, h1, h2.1, h2.2.1, h2.2.2⟩
theorem no_start {c x : Nat} {r : List Nat} {w : Str} {b : Bool} (hw : TL.tl w = [x]) (hl : w.length = 1) (hne : c ≠ x) (hb : b = decide ((c :: r).take w.length = TL.tl w)) : b = false := by
  rw [hl, hw] at hb
  refine hb.trans (decide_eq_false fun z => hne ?_)
  simpa using z
theorem parse_ok {vs : List Str} (hv : ∀ v ∈ vs, v ∈ varsM) {t : Str} (ht : t.length ≤ 16777216) : ∀ (j : Nat) (e : Ex) (n : Nat) (k : Int) (rest : List Nat) (s : RdS) (W : PyData → RdS → Prop), EOk vs j e → 2 * j ≤ n → k + j ≤ 60 → Rs t (TL.tl e.text ++ rest) s → Delim rest →
    (∀ s', Rs t rest s' → W e.data s') → (mEP n).1 [.int k] s W
  | 0, _, _, _, _, _, _, h, _, _, _, _, _ => h.elim
  | j + 1, e, 0, _, _, _, _, _, h, _, _, _, _ => by omega
  | j + 1, e, 1, _, _, _, _, _, h, _, _, _, _ => by omega
  | j + 1, e, n + 2, k, rest, s, W, he, hn, hk, h, hd, hW => by
    have leaf : ∀ (c : Nat) (r : List Nat), TL.tl e.text = c :: r → c ≠ 40 → c ≠ 64 → (∀ s2, Rs t (TL.tl e.text ++ rest) s2 → (if decide (c ∈ TL.tl ("abcdefghijklmnopqrstuvwxyz" : Str)) = true then
          nRet (nA mkTup (nCons (nL (rC (.str "variable"))) (nCons (nCall 0 mM_take_name nNil) nNil))) [none, some (.vl (.int k))] s2 (fun fl s' => match fl with
            | .rt d => W d s'
            | .nx _ => W .none s'
            | _ => False)
        else nRet (nCall 0 mM_take_integer nNil) [none, some (.vl (.int k))] s2 (fun fl s' => match fl with
            | .rt d => W d s'
            | .nx _ => W .none s'
            | _ => False))) → (mEP (n + 2)).1 [.int k] s W := fun c r hc h40 h64 hrest => by
      have h' : Rs t (c :: (r ++ rest)) s := by
        rw [hc] at h
        exact h
      refine ⟨[.str "("], rfl, rfl, starts_ok h' ht (by rw [len_lp]; decide) fun b hb => ⟨b, rfl, ?_⟩⟩
      have hb0 : b = false := no_start (w := "(") tl_lp len_lp h40 hb
      subst hb0
      refine ifs (fun z => by cases z) fun _ => ⟨[.str "@"], rfl, rfl, starts_ok h' ht (by rw [len_at]; decide) fun b hb => ⟨b, rfl, ?_⟩⟩
      have hb0 : b = false := no_start (w := "@") tl_at len_at h64 hb
      subst hb0
      refine ifs (fun z => by cases z) fun _ => ?_
      have hcut : cutS s.text (some (s.place : Int)) (some ((s.place : Int) + 1)) = ⟨#[c]⟩ := TL.ext_tl (by
        rw [show (s.place : Int) + 1 = ((s.place + 1 : Nat) : Int) by omega, h'.tx, cut_tl h'.pl, h'.sf]
        rfl)
      refine ⟨s.place, rfl, .int 1, rfl, .int ((s.place : Int) + 1), rfl, (s.place : Int) + 1, .str (cutS s.text (some (s.place : Int)) (some ((s.place : Int) + 1))), rfl, cut_ok (by rw [h'.tx]; exact ht), .str "abcdefghijklmnopqrstuvwxyz", rfl, .bool (decide (c ∈ TL.tl ("abcdefghijklmnopqrstuvwxyz" : Str))), by rw [hcut]; rfl, _, rfl, ?_⟩
      have := hrest s h
      refine ifs (fun q => ?_) (fun q => ?_)
      · rw [if_pos q] at this
        exact this
      · rw [if_neg (by rw [q]; exact Bool.false_ne_true)] at this
        exact this
    cases e with
    | num i =>
      obtain ⟨c, r, h1, h2, h3, h4⟩ := num_head he
      refine leaf c r h1 h2 h3 fun s2 h5 => ?_
      rw [if_neg (by rw [decide_eq_false h4]; exact Bool.false_ne_true)]
      exact ⟨rfl, int_in_ok he h5 ht hd hW⟩
    | var x =>
      obtain ⟨c, r, h1, h2, h3, h4⟩ := var_head (hv x he)
      refine leaf c r h1 h2 h3 fun s2 h5 => ?_
      rw [if_pos (decide_eq_true h4)]
      exact ⟨.str "variable", rfl, rfl, name_in_ok (hv x he) h5 ht hd fun s' h' => ⟨_, rfl, hW s' h'⟩⟩
    | pair o a b =>
      obtain ⟨ho, h2, ha, hb⟩ := he
      obtain ⟨ro, hro⟩ := op_head ho
      have htx : TL.tl (Ex.text (.pair o a b)) ++ rest = TL.tl ("(" : Str) ++ (TL.tl a.text ++ (TL.tl (opS o) ++ (TL.tl b.text ++ (TL.tl (")" : Str) ++ rest)))) := by
        show TL.tl ("(" ++ a.text ++ opS o ++ b.text ++ ")" : Str) ++ rest = _
        simp only [TL.tl_append, List.append_assoc]
      rw [htx] at h
      refine ⟨[.str "("], rfl, rfl, starts_ok h ht (by rw [len_lp]; decide) fun b0 hb0 => ⟨b0, rfl, ?_⟩⟩
      rw [take_self, decide_eq_true rfl] at hb0
      subst hb0
      refine ifs (fun _ => ?_) (fun z => by cases z)
      refine ⟨[.int (k + 1)], rfl, rfl, ?_⟩
      -- take_pair
      refine ⟨decide (k + 1 > 60), rfl, ifs (fun q => absurd (of_decide_eq_true q) (by omega)) fun _ => ?_⟩
      refine ⟨[.str "("], rfl, rfl, take_ok h ht (by rw [len_lp]; decide) fun s1 h1 => ?_⟩
      refine ⟨[.int (k + 1)], rfl, rfl, parse_ok hv ht j a n (k + 1) _ s1 _ ha (by omega) (by omega) h1 (fun c hc => .inl (by rw [hro] at hc; simpa using hc.symm)) fun s2 h3 => ⟨_, rfl, ?_⟩⟩
      refine ⟨[.list [.str " + ", .str " - ", .str " * "]], rfl, rfl, one_ok ho h3 ht fun s3 h4 => ⟨_, rfl, ?_⟩⟩
      have hst : fEq (.str (opS o)) (.str " * ") = some (.bool (decide (o = 2))) := by
        rcases op_cases ho with rfl | rfl | rfl <;> exact isO_ok (by decide +kernel)
      refine ⟨_, tAnd_ok (tVal_of (e2_ok (x := .str (opS o)) rfl rfl hst)) (tNot_ok (tVal_of (b := isB "int" a.data) rfl)), ifs (fun q => ?_) fun _ => ?_⟩
      · rw [Bool.and_eq_true] at q
        obtain ⟨i, rfl⟩ := h2 (of_decide_eq_true q.1)
        cases q.2
      refine ⟨[.int (k + 1)], rfl, rfl, parse_ok hv ht j b n (k + 1) _ s3 _ hb (by omega) (by omega) h4 (fun c hc => .inr (by rw [tl_rp] at hc; simpa using hc.symm)) fun s4 h5 => ⟨_, rfl, ?_⟩⟩
      refine ⟨[.str ")"], rfl, rfl, take_ok h5 ht (by rw [len_rp]; decide) fun s5 h6 => ?_⟩
      exact ⟨.str (opW o), word_ev ho _ _ _ _ _, _, rfl, _, rfl, hW s5 h6⟩
theorem parses {vs : List Str} (hv : ∀ v ∈ vs, v ∈ varsM) {e : Ex} (he : EOk vs 4 e) : Parses e.text e.data := by
  have hl := text_len hv 4 e he
  have l4 := LT_top (j := 4) (by decide)
  have ht : e.text.length ≤ 16777216 := by omega
  have h0 : Rs e.text (TL.tl e.text ++ []) ⟨e.text, 0⟩ := ⟨rfl, Nat.zero_le _, by rw [List.append_nil]; rfl⟩
  refine ⟨[.int 0], rfl, rfl, parse_ok hv ht 4 e 12 0 [] _ _ he (by decide) (by decide) h0 (fun c hc => by cases hc) fun s' h' => ⟨_, rfl, rfl, end_ok h' ht ⟨_, rfl, rfl⟩⟩⟩
end K73

set_option maxHeartbeats 2000000
namespace K73
open PySem PySem.Spec PyProof.Rows L2 Pd
/-! ### an expression's text says which it is -/
theorem span_eq : ∀ (A B r r' : List Nat), (∀ c ∈ A, c ≠ 32 ∧ c ≠ 41) → (∀ c ∈ B, c ≠ 32 ∧ c ≠ 41) → Delim r → Delim r' → A ++ r = B ++ r' → A = B ∧ r = r'
  | [], [], r, r', _, _, _, _, h => ⟨rfl, h⟩
  | [], b :: B, r, r', _, hB, hr, _, h => by
    exfalso
    have h' : r = b :: (B ++ r') := h
    have hb := hB b (List.mem_cons_self ..)
    rcases hr b (by rw [h']; rfl) with q | q
    · exact hb.1 q
    · exact hb.2 q
  | a :: A, [], r, r', hA, _, _, hr', h => by
    exfalso
    have h' : a :: (A ++ r) = r' := h
    have ha := hA a (List.mem_cons_self ..)
    rcases hr' a (by rw [← h']; rfl) with q | q
    · exact ha.1 q
    · exact ha.2 q
  | a :: A, b :: B, r, r', hA, hB, hr, hr', h => by
    have h' : a :: (A ++ r) = b :: (B ++ r') := h
    injection h' with h1 h2
    obtain ⟨h3, h4⟩ := span_eq A B r r' (fun c hc => hA c (List.mem_cons_of_mem _ hc)) (fun c hc => hB c (List.mem_cons_of_mem _ hc)) hr hr' h2
    exact ⟨by rw [h1, h3], h4⟩
theorem num_free {i : Int} (hi : i ∈ constsE) : ∀ c ∈ TL.tl (iStr' i), c ≠ 32 ∧ c ≠ 41 := by
  have h0 : ∀ i ∈ constsE, ∀ c ∈ TL.tl (iStr' i), c ≠ 32 ∧ c ≠ 41 := by decide +kernel
  exact h0 i hi
theorem var_free {x : Str} (hx : x ∈ varsM) : ∀ c ∈ TL.tl x, c ≠ 32 ∧ c ≠ 41 := by
  have h0 : ∀ x ∈ varsM, ∀ c ∈ TL.tl x, c ≠ 32 ∧ c ≠ 41 := by decide +kernel
  exact h0 x hx
theorem num_inj {i k : Int} (hi : i ∈ constsE) (hk : k ∈ constsE) (h : TL.tl (iStr' i) = TL.tl (iStr' k)) : i = k := by
  have h0 : ∀ i ∈ constsE, ∀ k ∈ constsE, TL.tl (iStr' i) = TL.tl (iStr' k) → i = k := by decide +kernel
  exact h0 i hi k hk h
theorem op_inj {o q : Nat} (ho : o < 3) (hq : q < 3) (h : TL.tl (opS o) = TL.tl (opS q)) : o = q := by
  have h0 : ∀ o < 3, ∀ q < 3, TL.tl (opS o) = TL.tl (opS q) → o = q := by decide +kernel
  exact h0 o ho q hq h
theorem pair_tl (o : Nat) (a b : Ex) (r : List Nat) : TL.tl (Ex.text (.pair o a b)) ++ r = 40 :: (TL.tl a.text ++ (TL.tl (opS o) ++ (TL.tl b.text ++ (41 :: r)))) := by
  show TL.tl ("(" ++ a.text ++ opS o ++ b.text ++ ")" : Str) ++ r = _
  simp only [TL.tl_append, List.append_assoc, tl_lp, tl_rp, List.cons_append, List.nil_append]
theorem inj {vs vs' : List Str} (hv : ∀ v ∈ vs, v ∈ varsM) (hv' : ∀ v ∈ vs', v ∈ varsM) : ∀ (j j' : Nat) (e e' : Ex) (r r' : List Nat), EOk vs j e → EOk vs' j' e' → Delim r → Delim r' → TL.tl e.text ++ r = TL.tl e'.text ++ r' → e = e' ∧ r = r'
  | 0, _, _, _, _, _, h, _, _, _, _ => h.elim
  | j + 1, 0, _, _, _, _, _, h, _, _, _ => h.elim
  | j + 1, j' + 1, .num i, .num k, r, r', h, h', hr, hr', e => by
    obtain ⟨h1, h2⟩ := span_eq _ _ r r' (num_free h) (num_free h') hr hr' e
    exact ⟨by rw [num_inj h h' h1], h2⟩
  | j + 1, j' + 1, .var x, .var y, r, r', h, h', hr, hr', e => by
    obtain ⟨h1, h2⟩ := span_eq _ _ r r' (var_free (hv x h)) (var_free (hv' y h')) hr hr' e
    have h1' : TL.tl x = TL.tl y := h1
    exact ⟨by rw [TL.ext_tl h1'], h2⟩
  | j + 1, j' + 1, .num i, .var y, r, r', h, h', hr, hr', e => by
    obtain ⟨c, q, c1, _, _, c4⟩ := num_head h
    obtain ⟨d, q', d1, _, _, d4⟩ := var_head (hv' y h')
    have e' : TL.tl (iStr' i) ++ r = TL.tl y ++ r' := e
    rw [c1, d1] at e'
    injection e' with e1 _
    exact absurd (e1 ▸ d4) c4
  | j + 1, j' + 1, .var x, .num k, r, r', h, h', hr, hr', e => by
    obtain ⟨c, q, c1, _, _, c4⟩ := num_head h'
    obtain ⟨d, q', d1, _, _, d4⟩ := var_head (hv x h)
    have e' : TL.tl x ++ r = TL.tl (iStr' k) ++ r' := e
    rw [c1, d1] at e'
    injection e' with e1 _
    exact absurd (e1 ▸ d4) c4
  | j + 1, j' + 1, .num i, .pair o a b, r, r', h, h', hr, hr', e => by
    obtain ⟨c, q, c1, c2, _, _⟩ := num_head h
    have e' : TL.tl (iStr' i) ++ r = _ := e.trans (pair_tl o a b r')
    rw [c1] at e'
    injection e' with e1 _
    exact absurd e1 c2
  | j + 1, j' + 1, .var x, .pair o a b, r, r', h, h', hr, hr', e => by
    obtain ⟨c, q, c1, c2, _, _⟩ := var_head (hv x h)
    have e' : TL.tl x ++ r = _ := e.trans (pair_tl o a b r')
    rw [c1] at e'
    injection e' with e1 _
    exact absurd e1 c2
  | j + 1, j' + 1, .pair o a b, .num i, r, r', h, h', hr, hr', e => by
    obtain ⟨c, q, c1, c2, _, _⟩ := num_head h'
    have e' : TL.tl (iStr' i) ++ r' = _ := e.symm.trans (pair_tl o a b r)
    rw [c1] at e'
    injection e' with e1 _
    exact absurd e1 c2
  | j + 1, j' + 1, .pair o a b, .var x, r, r', h, h', hr, hr', e => by
    obtain ⟨c, q, c1, c2, _, _⟩ := var_head (hv' x h')
    have e' : TL.tl x ++ r' = _ := e.symm.trans (pair_tl o a b r)
    rw [c1] at e'
    injection e' with e1 _
    exact absurd e1 c2
  | j + 1, j' + 1, .pair o a b, .pair q a' b', r, r', h, h', hr, hr', e => by
    obtain ⟨ho, _, ha, hb⟩ := h
    obtain ⟨hq, _, ha', hb'⟩ := h'
    have e1 := (pair_tl o a b r).symm.trans (e.trans (pair_tl q a' b' r'))
    injection e1 with _ e2
    obtain ⟨ro, hro⟩ := op_head ho
    obtain ⟨rq, hrq⟩ := op_head hq
    obtain ⟨g1, g2⟩ := inj hv hv' j j' a a' _ _ ha ha' (fun c hc => .inl (by rw [hro] at hc; simpa using hc.symm)) (fun c hc => .inl (by rw [hrq] at hc; simpa using hc.symm)) e2
    have l1 : (TL.tl (opS o)).length = (TL.tl (opS q)).length := by rw [← TL.len_tl, ← TL.len_tl, len_op, len_op]
    obtain ⟨g3, g4⟩ := List.append_inj g2 l1
    obtain ⟨g5, g6⟩ := inj hv hv' j j' b b' _ _ hb hb' (fun c hc => .inr (by simpa using hc.symm)) (fun c hc => .inr (by simpa using hc.symm)) g4
    injection g6 with _ g7
    exact ⟨by rw [g1, op_inj ho hq g3, g5], g7⟩
/-! ### the reader's function -/
def Wr (t : Str) (e : Ex) : Prop := ∃ vs, vs ∈ varsMenu ∧ EOk vs 4 e ∧ e.text = t
open Classical in
noncomputable def pfE (t : Str) : Option PyData := if h : ∃ e, Wr t e then some (Classical.choose h).data else none
theorem pf_ok : ∀ t d, pfE t = some d → t.length ≤ 16777216 ∧ Parses t d := fun t d h => by
  unfold pfE at h
  split at h
  · rename_i hx
    cases h
    obtain ⟨vs, h1, h2, h3⟩ := Classical.choose_spec hx
    have hl := text_len (vars_in h1) 4 _ h2
    have l4 := LT_top (j := 4) (by decide)
    have hp := parses (vars_in h1) h2
    rw [h3] at hp hl
    exact ⟨by omega, hp⟩
  · cases h
theorem pf_text {vs : List Str} {e : Ex} (hv : vs ∈ varsMenu) (he : EOk vs 4 e) : pfE e.text = some e.data := by
  have hx : ∃ e', Wr e.text e' := ⟨e, vs, hv, he, rfl⟩
  unfold pfE
  rw [dif_pos hx]
  obtain ⟨vs', h1, h2, h3⟩ := Classical.choose_spec hx
  have := inj (vars_in h1) (vars_in hv) 4 4 (Classical.choose hx) e [] [] h2 he (fun c hc => by cases hc) (fun c hc => by cases hc) (by rw [h3])
  rw [this.1]
end K73

set_option maxHeartbeats 2000000
namespace K73
open PySem PySem.Spec PyProof.Rows L2 Pd
/-! ### a text as words -/
theorem words_l : ∀ l : List Nat, ∃ p ps, (∀ q ∈ p :: ps, 32 ∉ q ∧ q.length ≤ l.length) ∧ ps.length ≤ l.length ∧ l = TL.joinL [32] (p :: ps)
  | [] => ⟨[], [], fun q hq => by
      rw [List.mem_singleton.mp hq]
      exact ⟨by simp, Nat.le_refl _⟩, Nat.le_refl _, rfl⟩
  | c :: l => by
    obtain ⟨p, ps, h1, h2, h3⟩ := words_l l
    by_cases hc : c = 32
    · refine ⟨[], p :: ps, fun q hq => ?_, by rw [List.length_cons, List.length_cons]; omega, ?_⟩
      · rcases List.mem_cons.mp hq with rfl | hq
        · exact ⟨by simp, Nat.zero_le _⟩
        · exact ⟨(h1 q hq).1, Nat.le_trans (h1 q hq).2 (Nat.le_succ _)⟩
      · show c :: l = [] ++ ([32] ++ TL.joinL [32] (p :: ps))
        rw [← h3, hc]
        rfl
    · refine ⟨c :: p, ps, fun q hq => ?_, by rw [List.length_cons]; omega, ?_⟩
      · rcases List.mem_cons.mp hq with rfl | hq
        · have := h1 p (List.mem_cons_self ..)
          refine ⟨fun hm => ?_, by rw [List.length_cons, List.length_cons]; omega⟩
          rcases List.mem_cons.mp hm with q | q
          · exact hc q.symm
          · exact this.1 q
        · have := h1 q (List.mem_cons_of_mem _ hq)
          exact ⟨this.1, Nat.le_trans this.2 (Nat.le_succ _)⟩
      · rw [h3]
        cases ps with
        | nil => rfl
        | cons q ps => rfl
theorem words_of (x : Str) : ∃ ws : List Str, ws ≠ [] ∧ (∀ w ∈ ws, 32 ∉ TL.tl w ∧ w.length ≤ x.length) ∧ ws.length ≤ x.length + 1 ∧ x = Txt.join " " ws := by
  obtain ⟨p, ps, h1, h2, h3⟩ := words_l (TL.tl x)
  refine ⟨(p :: ps).map fun l => ⟨l.toArray⟩, by simp, fun w hw => ?_, ?_, ?_⟩
  · obtain ⟨l, hl, rfl⟩ := List.mem_map.mp hw
    have := h1 l hl
    refine ⟨this.1, ?_⟩
    rw [TL.len_tl, TL.len_tl]
    exact this.2
  · rw [List.length_map, List.length_cons, TL.len_tl]
    omega
  · refine TL.ext_tl ?_
    rw [TL.join_eq, TL.tl_join, tl_sp, List.map_map]
    have : (TL.tl ∘ fun l : List Nat => (⟨l.toArray⟩ : Str)) = id := by
      funext l
      rfl
    rw [this, List.map_id]
    exact h3
theorem join_free {c : Nat} {s : Str} : ∀ {ys : List Str}, c ∉ TL.tl s → (∀ y ∈ ys, c ∉ TL.tl y) → c ∉ TL.tl (Txt.join s ys) := fun {ys} hs hy => by
  rw [TL.join_eq, TL.tl_join]
  have : ∀ (ls : List (List Nat)), (∀ l ∈ ls, c ∉ l) → c ∉ TL.joinL (TL.tl s) ls := fun ls => by
    induction ls with
    | nil => intro _; simp [TL.joinL]
    | cons l ls ih =>
      intro h
      cases ls with
      | nil => exact h l (List.mem_cons_self ..)
      | cons m r =>
        show c ∉ l ++ (TL.tl s ++ TL.joinL (TL.tl s) (m :: r))
        intro hm
        rcases List.mem_append.mp hm with hm | hm
        · exact h l (List.mem_cons_self ..) hm
        · rcases List.mem_append.mp hm with hm | hm
          · exact hs hm
          · exact ih (fun z hz => h z (List.mem_cons_of_mem _ hz)) hm
  refine this _ fun l hl => ?_
  obtain ⟨y, hy', rfl⟩ := List.mem_map.mp hl
  exact hy y hy'
theorem cut2 (x y : PyData) (ns : List PyData) : Pd.cutD (x :: y :: ns) (some 2) none = ns := by
  unfold Pd.cutD
  have e1 : HT.sIx (x :: y :: ns).length 0 (some 2) = 2 := by
    rw [show (some (2 : Int)) = some ((2 : Nat) : Int) from rfl, HT.sIx_nat, List.length_cons, List.length_cons]
    omega
  rw [e1]
  show List.take ((x :: y :: ns).length - 2) ns = ns
  exact List.take_of_length_le (by rw [List.length_cons, List.length_cons]; omega)
theorem tAnd_f {a b : T1} {ρ : Sl} (ha : a ρ = some false) : tAndD a b ρ = some false := by
  unfold tAndD
  rw [ha]
/-! ### the parts -/
theorem task0 : ([0, 1, 2] : List Int).all (fun i => isO (fStr [.int i]) (.str (iStr' i)) && (isO (m_whole_in [.str (iStr' i)]) (.int i) && (Nat.ble (iStr' i).length 3 && (iStr' i).cps.toList.all fun c => c != 32 && c != 59))) = true := by decide +kernel
structure TaskF (i : Int) : Prop where
  st : fStr [.int i] = some (.str (iStr' i))
  wh : m_whole_in [.str (iStr' i)] = some (.int i)
  ln : (iStr' i).length ≤ 3
  sp : 32 ∉ TL.tl (iStr' i)
  se : 59 ∉ TL.tl (iStr' i)
theorem task_f {i : Int} (h0 : 0 ≤ i) (h3 : i < 3) : TaskF i := by
  have hm : i ∈ ([0, 1, 2] : List Int) := by
    have : i = 0 ∨ i = 1 ∨ i = 2 := by omega
    rcases this with rfl | rfl | rfl <;> simp
  have z := List.all_eq_true.mp task0 i hm
  simp only [Bool.and_eq_true] at z
  obtain ⟨z1, z2, z3, z4⟩ := z
  have h4 := List.all_eq_true.mp z4
  exact ⟨isO_ok z1, isO_ok z2, Nat.le_of_ble_eq_true z3, fun hm => by have := h4 32 hm; simp at this, fun hm => by have := h4 59 hm; simp at this⟩
def numsT (ns : List PyData) : Str := Txt.join "," (ns.map numT)
def Part.text : Part → Str
  | .ends t e => Txt.join " " ["ends", iStr' t, e.text]
  | .emits c ns => if ns = [] then Txt.join " " ["emits", c] else Txt.join " " ["emits", c, numsT ns]
  | .alone w => w
structure PartF (p : PrG) (q : Part) : Prop where
  tx : m__law_part_text [q.data] = some (.str q.text)
  sh : m_show_part [q.data] = some (.str q.text)
  rd : m_part_in pfE [.str q.text] = some q.data
  wi : ∀ n k, m_is_within (n + 1) [p.data, q.data, k] = some (.bool true)
  hd : ∃ w r, q.data = .tuple (.str w :: r) ∧ fEq (.str w) (.str "all") = some (.bool false) ∧ fNe (.str w) (.str "all") = some (.bool true)
  se : 59 ∉ TL.tl q.text
  ln : q.text.length ≤ 1000
  ne : (TL.tl q.text).head? ≠ some 97
  nice : Nice 6 11000 q.data
theorem len_sp1 : (" " : Str).length = 1 := by decide +kernel
theorem len_cm : ("," : Str).length = 1 := by decide +kernel
theorem tl_cm : TL.tl ("," : Str) = 44 :: [] := by decide +kernel
theorem all_cm : ("," : Str).cps.all (· < 256) = true := by decide +kernel
theorem len_ends : ("ends" : Str).length = 4 := by decide +kernel
theorem len_emits : ("emits" : Str).length = 5 := by decide +kernel
theorem ends_ne : fEq (.str "ends") (.str "all") = some (.bool false) ∧ fNe (.str "ends") (.str "all") = some (.bool true) := ⟨isO_ok (by decide +kernel), isO_ok (by decide +kernel)⟩
theorem emits_ne : fEq (.str "emits") (.str "all") = some (.bool false) ∧ fNe (.str "emits") (.str "all") = some (.bool true) := ⟨isO_ok (by decide +kernel), isO_ok (by decide +kernel)⟩
theorem emits_ends : fEq (.str "emits") (.str "ends") = some (.bool false) := isO_ok (by decide +kernel)
theorem join3 (a b c : Str) : Txt.join " " [a, b, c] = a ++ " " ++ (b ++ " " ++ c) := by
  rw [TL.join_eq]
  rfl
theorem ends_text (t : Int) (e : Str) : (("ends " : Str) ++ iStr' t ++ " " ++ e) = Txt.join " " ["ends", iStr' t, e] := by
  have h : TL.tl ("ends " : Str) = TL.tl ("ends" : Str) ++ TL.tl (" " : Str) := by decide +kernel
  refine TL.ext_tl ?_
  rw [join3]
  simp only [TL.tl_append, h, List.append_assoc]
theorem within_start {p : PrG} {n : Nat} {k d : PyData} {w : Str} {r : List PyData} {ρ : Sl} (hd : d = .tuple (.str w :: r)) : tOrD (tNotD (tVal (rE1 (fIsi "tuple") (rVar 1)))) (tOrD (tVal (rE2 fEq (rA fLen (aCons (rVar 1) aNil)) (rC (.int 0)))) (tNotD (tVal (rE1 (fIsi "str") (rE2 fIx (rVar 1) (rC (.int 0))))))) [some (.vl p.data), some (.vl d), some (.vl k), none, none] = some false := by
  subst hd
  have hx : rE2 fIx (rVar 1) (rC (.int 0)) [some (.vl p.data), some (.vl (.tuple (.str w :: r))), some (.vl k), none, none] = some (.str w) := e2_ok (x := .tuple (.str w :: r)) rfl rfl (ix_t (j := 0) rfl)
  have hl : fEq (.int ((r.length + 1 : Nat) : Int)) (.int 0) = some (.bool false) := by
    show some (PyData.bool (decide (((r.length + 1 : Nat) : Int) = 0))) = _
    rw [decide_eq_false (by omega)]
  exact tOr_ok (x := false) (y := false) rfl (tOr_ok (x := false) (y := false) (tVal_of (e2_ok (x := .int ((r.length + 1 : Nat) : Int)) rfl rfl hl)) (tNot_ok (x := true) (tVal_of (e1_ok hx rfl))))
theorem ends_f {p : PrG} (hp : p.Ok) {t : Int} {e : Ex} (h : POk p (.ends t e)) : PartF p (.ends t e) := by
  obtain ⟨h0, h1, he⟩ := h
  have hl3 := hp.l3
  have hv := vars_in hp.v
  have T := task_f h0 (by omega)
  have le := text_len hv 4 e he
  have l4 := LT_top (j := 4) (by decide)
  let D : PyData := .tuple [.str "ends", .int t, e.data]
  have hsh : Short ["ends", iStr' t, e.text] := ⟨Nat.le_of_ble_eq_true rfl, fun y hy => by
    simp only [List.mem_cons, List.not_mem_nil, or_false] at hy
    rcases hy with rfl | rfl | rfl
    · rw [len_ends]; decide
    · have := T.ln; omega
    · omega⟩
  have hends : fEq (.str "ends") (.str "ends") = some (.bool true) := fEq_str _
  refine ⟨?_, ?_, ?_, ?_, ⟨"ends", _, rfl, ends_ne⟩, ?_, ?_, ?_, ?_⟩
  · -- the law's text
    have l5 : ("ends " : Str).length = 5 := by decide +kernel
    have lt := T.ln
    have e1 : fAdd (.str "ends ") (.str (iStr' t)) = some (.str ("ends " ++ iStr' t)) := add_str (by rw [l5]; omega)
    have e2 : fAdd (.str ("ends " ++ iStr' t)) (.str " ") = some (.str ("ends " ++ iStr' t ++ " ")) := add_str (by rw [len_app, l5, len_sp1]; omega)
    have e3 : fAdd (.str ("ends " ++ iStr' t ++ " ")) (.str e.text) = some (.str (Txt.join " " ["ends", iStr' t, e.text])) := by
      rw [← ends_text]
      exact add_str (by rw [len_app, len_app, l5, len_sp1]; omega)
    exact runB_rt (sSeq_rt ((sIf_t (tVal_of (e2_ok (x := .str "ends") rfl rfl hends))).trans (sRet_ok (e2_ok (e2_ok (e2_ok rfl (rA_ok rfl T.st) e1) rfl e2) (rCall_ok (ds := [e.data]) rfl rfl (written_ok hv 4 e 6 he (by decide) (by decide))) e3))))
  · exact runB_rt (sSeq_rt ((sIf_t (tVal_of (e2_ok (x := .str "ends") rfl rfl hends))).trans (sRet_ok (e2_ok rfl (rA_ok (d := .list ((["ends", iStr' t, e.text] : List Str).map .str)) (aC_ok rfl (aC_ok (rA_ok rfl T.st) (aC_ok (rCall_ok (ds := [e.data]) rfl rfl (show_ok hv 4 e 6 he (by decide) (by decide))) rfl))) rfl) (join_ok hsh len_sp)))))
  · -- read back
    obtain ⟨ws, w1, w2, w3, w4⟩ := words_of e.text
    have hjoin : Txt.join " " ["ends", iStr' t, e.text] = Txt.join " " ("ends" :: iStr' t :: ws) := by
      refine TL.ext_tl ?_
      rw [join3, w4, TL.join_eq, TL.join_eq]
      cases ws with
      | nil => exact absurd rfl w1
      | cons w r =>
        show _ = TL.tl ("ends" ++ " " ++ (iStr' t ++ " " ++ Str.join " " (w :: r)))
        rfl
    have hS : Short ("ends" :: iStr' t :: ws) := ⟨by rw [List.length_cons, List.length_cons]; omega, fun y hy => by
      rcases List.mem_cons.mp hy with rfl | hy
      · rw [len_ends]; decide
      · rcases List.mem_cons.mp hy with rfl | hy
        · have := T.ln; omega
        · have := (w2 y hy).2; omega⟩
    have hend32 : 32 ∉ TL.tl ("ends" : Str) := by decide +kernel
    have hsp := split_ok tl_sp all_sp hS len_sp (by simp) (fun y hy => by
      rcases List.mem_cons.mp hy with rfl | hy
      · exact hend32
      · rcases List.mem_cons.mp hy with rfl | hy
        · exact T.sp
        · exact (w2 y hy).1)
    have hS2 : Short ws := ⟨by omega, fun y hy => by have := (w2 y hy).2; omega⟩
    show m_part_in pfE [.str (Txt.join " " ["ends", iStr' t, e.text])] = _
    rw [hjoin]
    let X : PyData := .str (Txt.join " " ("ends" :: iStr' t :: ws))
    let WL : List PyData := .str "ends" :: .str (iStr' t) :: ws.map .str
    have hlen : fGt (.int ((WL.length : Nat) : Int)) (.int 2) = some (.bool true) := by
      show some (PyData.bool (decide ((2 : Int) < (WL.length : Nat)))) = _
      rw [decide_eq_true]
      show (2 : Int) < (((ws.map PyData.str).length + 1 + 1 : Nat) : Int)
      rw [List.length_map]
      have := List.length_pos_iff.mpr w1
      omega
    have hx0 : rE2 fIx (rVar 1) (rC (.int 0)) [some (.vl X), some (.vl (.list WL)), none, none, none] = some (.str "ends") := e2_ok (x := .list WL) rfl rfl (ix_l (j := 0) rfl)
    have hx1 : rE2 fIx (rVar 1) (rC (.int 1)) [some (.vl X), some (.vl (.list WL)), none, none, none] = some (.str (iStr' t)) := e2_ok (x := .list WL) rfl rfl (ix_l (j := 1) rfl)
    have hj : rE2 fJoin (rC (.str " ")) (rCut (rVar 1) (oSome (rC (.int 2))) oNone) [some (.vl X), some (.vl (.list WL)), some (.vl (.int t)), none, none] = some (.str e.text) := by
      refine e2_ok (x := .str " ") (y := .list (ws.map .str)) rfl ?_ ((join_ok hS2 len_sp).trans (by rw [← w4]))
      show some (PyData.list (Pd.cutD WL (some 2) none)) = _
      rw [cut2]
    have hpf : m_expression_in pfE [.str e.text] = some e.data := pf_text hp.v he
    refine runB_rt ((sSeq_nx (ρ' := [some (.vl X), some (.vl (.list WL)), none, none, none]) (sAsg_ok (l := [(1, .list WL)]) (e2_ok (x := X) rfl rfl hsp) rfl)).trans (sSeq_rt ((sIf_t (tAnd_ok (x := true) (y := true) (tVal_of (e2_ok hx0 rfl hends)) (tVal_of (e2_ok (x := .int (WL.length : Nat)) rfl rfl hlen)))).trans ?_)))
    exact (sSeq_nx (ρ' := [some (.vl X), some (.vl (.list WL)), some (.vl (.int t)), none, none]) (sAsg_ok (l := [(2, .int t)]) (rCall_ok (ds := [.str (iStr' t)]) (aC_ok hx1 rfl) rfl T.wh) rfl)).trans ((sMust rfl).trans (sRet_ok (rA_ok (aC_ok rfl (aC_ok rfl (aC_ok (rCall_ok (ds := [.str e.text]) (aC_ok hj rfl) rfl hpf) rfl))) rfl)))
  · intro n k
    have hix : m_is_index [.int t, .int (p.ts.length : Nat)] = some (.bool true) := by
      have hch : rChain fLe fLt (rC (.int 0)) (rVar 0) (rVar 1) [some (.vl (.int t)), some (.vl (.int (p.ts.length : Nat)))] = some (.bool true) := by
        show (match some (PyData.bool (decide ((0 : Int) ≤ t))) with
          | some (.bool true) => some (PyData.bool (decide (t < (p.ts.length : Nat))))
          | some (.bool false) => some (.bool false)
          | _ => none) = _
        rw [decide_eq_true h0, decide_eq_true h1]
      exact runB_rt (sRet_ok (rAnd_t rfl (rAnd_t rfl hch)))
    have hie : m_is_ends [p.data, D] = some (.bool true) := runB_rt ((sSeq_nx (ρ' := [some (.vl p.data), some (.vl D), some (.vl (tupS p.vars)), some (.vl (.tuple [])), some (.vl (.tuple [.int p.cores, .str "one", .bool false])), some (.vl (.tuple [.tuple [], .tuple [], .tuple [], tupS p.chans])), some (.vl (.tuple p.ts))]) rfl).trans (sRet_ok (rAnd_t rfl (rAnd_t (rCall_ok (ds := [.int t, .int (p.ts.length : Nat)]) rfl rfl hix) (rCall_ok (ds := [e.data, tupS p.vars, .tuple []]) rfl rfl (is_ex hp.v 4 e 6 4 he (by decide) (by decide)))))))
    exact runB_rt ((sSeq_nx (sIf_nx (within_start (n := n) (ρ := []) rfl))).trans ((sSeq_nx (ρ' := [some (.vl p.data), some (.vl D), some (.vl k), some (.vl (.str "ends")), none]) rfl).trans (sSeq_rt ((sIf_t (tVal_of (e2_ok (x := .str "ends") rfl rfl hends))).trans (sRet_ok (rCall_ok (ds := [p.data, D]) rfl rfl hie))))))
  · have hs : 59 ∉ TL.tl (" " : Str) := by decide +kernel
    have hw : 59 ∉ TL.tl ("ends" : Str) := by decide +kernel
    have : ∀ (j : Nat) (e : Ex), EOk p.vars j e → 59 ∉ TL.tl e.text := fun j => by
      induction j with
      | zero => intro e h; exact h.elim
      | succ j ih =>
        intro e h
        cases e with
        | num i => exact (const_f h).2.2.2
        | var x =>
          have h0 : ∀ x ∈ varsM, 59 ∉ TL.tl x := by decide +kernel
          exact h0 x (hv x h)
        | pair o a b =>
          obtain ⟨ho, _, ha, hb⟩ := h
          have hop : 59 ∉ TL.tl (opS o) := by
            have h0 : ∀ o < 3, 59 ∉ TL.tl (opS o) := by decide +kernel
            exact h0 o ho
          have e1 := pair_tl o a b []
          rw [List.append_nil] at e1
          rw [e1]
          intro hm
          simp only [List.mem_cons, List.mem_append, List.not_mem_nil, or_false] at hm
          rcases hm with hm | hm | hm | hm | hm
          · cases hm
          · exact ih a ha hm
          · exact hop hm
          · exact ih b hb hm
          · cases hm
    exact join_free hs fun y hy => by
      simp only [List.mem_cons, List.not_mem_nil, or_false] at hy
      rcases hy with rfl | rfl | rfl
      · exact hw
      · exact T.se
      · exact this 4 e he
  · show (Txt.join " " ["ends", iStr' t, e.text]).length ≤ 1000
    rw [join3, len_app, len_app, len_app, len_app, len_ends, len_sp1]
    have := T.ln
    omega
  · show (TL.tl (Txt.join " " ["ends", iStr' t, e.text])).head? ≠ some 97
    have h0 : TL.tl ("ends" : Str) = [101, 110, 100, 115] := by decide +kernel
    rw [join3, TL.tl_append, TL.tl_append, h0]
    simp
  · have n1 : Nice 4 (LE 4) e.data := ex_nice hv 4 e he
    have n2 : Nice 0 40 (.int t) := small_nice h0 (by omega)
    exact (nice_tup (k := 4) (L := LE 4) (ds := [.str "ends", .int t, e.data]) fun d hd => by
      simp only [List.mem_cons, List.not_mem_nil, or_false] at hd
      rcases hd with rfl | rfl | rfl
      · exact (niceB_ok (k := 0) (L := 40) (by decide +kernel)).le (by decide) (LE_up 4)
      · exact n2.le (by decide) (LE_up 4)
      · exact n1).le (by decide) (show 3 * (LE 4 + 2) + 3 ≤ 11000 by decide)
end K73

set_option maxHeartbeats 2000000
namespace K73
open PySem PySem.Spec PyProof.Rows L2 Pd
theorem ne_nil {k L : Nat} {ns : List PyData} (h : Nice k L (.tuple ns)) (hk : k ≤ 50) : fNe (.tuple ns) (.tuple []) = some (.bool (!ns.isEmpty)) := by
  have h1 := h.shaped hk
  have h2 : SeqAt.shaped (.tuple []) = true := by decide +kernel
  show (if (SeqAt.shaped (.tuple ns) && SeqAt.shaped (.tuple [])) = true then some (PyData.bool (!(PyData.tuple ns).eqv (.tuple []))) else none) = _
  rw [h1, h2]
  cases ns with
  | nil => simp [PyData.eqv, PyData.eqvAll]
  | cons x xs => simp [PyData.eqv, PyData.eqvAll]
section
variable {p : PrG} {c : Str} {ns : List PyData}
theorem nums_short (hl : ns.length ≤ 3) (hn : ∀ x ∈ ns, x ∈ numsM) : Short (ns.map numT) := ⟨by rw [List.length_map]; omega, fun y hy => by
  obtain ⟨x, hx, rfl⟩ := List.mem_map.mp hy
  have := (num_f (List.mem_cons_of_mem _ (hn x hx))).ln
  omega⟩
theorem num_of (hn : ∀ x ∈ ns, x ∈ numsM) {x : PyData} (hx : x ∈ ns) : NumF x := num_f (List.mem_cons_of_mem _ (hn x hx))
theorem nums_len (hl : ns.length ≤ 3) (hn : ∀ x ∈ ns, x ∈ numsM) : (numsT ns).length ≤ 123 := by
  unfold numsT
  rw [TL.join_eq]
  have := join_len (L := 40) "," (ns.map numT) fun y hy => by
    obtain ⟨x, hx, rfl⟩ := List.mem_map.mp hy
    exact (num_of hn hx).ln
  rw [List.length_map, len_cm] at this
  have h2 : ns.length * (40 + 1) ≤ 3 * 41 := Nat.mul_le_mul hl (Nat.le_refl _)
  omega
theorem nums_free {k : Nat} (hk : k = 32 ∨ k = 59) (hn : ∀ x ∈ ns, x ∈ numsM) : k ∉ TL.tl (numsT ns) := by
  refine join_free ?_ fun y hy => ?_
  · rw [tl_cm]
    rcases hk with rfl | rfl <;> simp
  · obtain ⟨x, hx, rfl⟩ := List.mem_map.mp hy
    exact (num_of hn hx).no k (by rcases hk with rfl | rfl <;> simp)
theorem nmap (f : PyData → Str) (ns : List PyData) : (ns.map f).map PyData.str = ns.map fun x => .str (f x) := by
  rw [List.map_map]
  rfl
theorem emits_eq (a : Str) : (("emits " : Str) ++ a) = Txt.join " " ["emits", a] := by
  have h : TL.tl ("emits " : Str) = TL.tl ("emits" : Str) ++ TL.tl (" " : Str) := by decide +kernel
  refine TL.ext_tl ?_
  rw [TL.join_eq]
  show _ = TL.tl ("emits" ++ " " ++ a)
  rw [TL.tl_append, TL.tl_append, TL.tl_append, h]
theorem emits_eq3 (a b : Str) : (("emits " : Str) ++ a ++ (" " ++ b)) = Txt.join " " ["emits", a, b] := by
  have h : TL.tl ("emits " : Str) = TL.tl ("emits" : Str) ++ TL.tl (" " : Str) := by decide +kernel
  refine TL.ext_tl ?_
  rw [join3]
  simp only [TL.tl_append, h, List.append_assoc]
theorem emits_self : fEq (.str "emits") (.str "emits") = some (.bool true) := fEq_str _
theorem in23 (k : Nat) (hk : k = 2 ∨ k = 3) : fIn false (.int (k : Int)) (.tuple [.int 2, .int 3]) = some (.bool true) := by
  rcases hk with rfl | rfl <;> exact isO_ok (by decide +kernel)
theorem em32 : 32 ∉ TL.tl ("emits" : Str) := by decide +kernel
/-- the numbers of an emits, read -/
theorem emits_is (hp : p.Ok) (hc : c ∈ p.chans) (hl : ns.length ≤ 3) (hn : ∀ x ∈ ns, x ∈ numsM) (n : Nat) (k : PyData) : m_is_within (n + 1) [p.data, .tuple [.str "emits", .str c, .tuple ns], k] = some (.bool true) := by
  let D : PyData := .tuple [.str "emits", .str c, .tuple ns]
  have hlc := lc_ok (src := aTup (rE2 fIx (rVar 1) (rC (.int 2)))) (g := gN 3) (e := rCall 1 m_is_number (aCons (rVar 3) aNil)) (vs := [3]) (ρ := [some (.vl p.data), some (.vl D), some (.vl (tupS p.chans)), none]) (xs := ns) (h := id) (f := fun _ => .bool true) (by rw [List.map_id]; rfl) (by omega) fun x hx => ⟨[(3, x)], rfl, rCall_ok (ds := [x]) rfl rfl (num_of hn hx).is⟩
  have hie : m_is_emits [p.data, D] = some (.bool true) := runB_rt ((sSeq_nx (ρ' := [some (.vl p.data), some (.vl D), some (.vl (tupS p.chans)), none]) rfl).trans ((sSeq_nx (sIf_nx (tOr_ok (x := false) (y := false) rfl (tOr_ok (x := false) (y := false) rfl (tVal_of (e2_ok (x := .str c) (y := tupS p.chans) rfl rfl (chan_in hp.c hc).2)))))).trans (sRet_ok (rAnd_t rfl (rA_ok (aC_ok hlc rfl) (all_t ns))))))
  exact runB_rt ((sSeq_nx (sIf_nx (within_start (n := n) (ρ := []) rfl))).trans ((sSeq_nx (ρ' := [some (.vl p.data), some (.vl D), some (.vl k), some (.vl (.str "emits")), none]) rfl).trans ((sSeq_nx (sIf_nx (tVal_of (e2_ok (x := .str "emits") rfl rfl emits_ends)))).trans (sSeq_rt ((sIf_t (tVal_of (e2_ok (x := .str "emits") rfl rfl emits_self))).trans (sRet_ok (rCall_ok (ds := [p.data, D]) rfl rfl hie)))))))
theorem emits_nice (hp : p.Ok) (hc : c ∈ p.chans) (hl : ns.length ≤ 3) (hn : ∀ x ∈ ns, x ∈ numsM) : Nice 2 130 (.tuple ns) ∧ Nice 6 11000 (.tuple [.str "emits", .str c, .tuple ns]) := by
  have n1 : Nice 2 130 (.tuple ns) := (nice_tup (k := 1) (L := 40) (fun x hx => nums_nice (hn x hx)) (by omega)).le (Nat.le_refl _) (by omega)
  have hc0 : Nice 1 70 (.str c) := by
    have : ∀ cs ∈ chansMenu, ∀ c ∈ cs, niceB 1 70 (.str c) = true := by decide +kernel
    exact niceB_ok (this _ hp.c c hc)
  refine ⟨n1, (nice_tup (k := 2) (L := 130) (ds := [.str "emits", .str c, .tuple ns]) fun d hd => ?_).le (by decide) (show 3 * (130 + 2) + 3 ≤ 11000 by decide)⟩
  simp only [List.mem_cons, List.not_mem_nil, or_false] at hd
  rcases hd with rfl | rfl | rfl
  · exact (niceB_ok (k := 0) (L := 40) (by decide +kernel)).le (by decide) (by decide)
  · exact hc0.le (by decide) (by decide)
  · exact n1
theorem emits_f (hp : p.Ok) (h : POk p (.emits c ns)) : PartF p (.emits c ns) := by
  obtain ⟨hc, hl, hn⟩ := h
  have hm := chans_in hp.c c hc
  obtain ⟨f1, f2, f3, f4⟩ := chan_f hm
  obtain ⟨n1, n2⟩ := emits_nice hp hc hl hn
  let D : PyData := .tuple [.str "emits", .str c, .tuple ns]
  have hne := ne_nil n1 (by decide)
  have l6 : ("emits " : Str).length = 6 := by decide +kernel
  have e1 : fAdd (.str "emits ") (.str c) = some (.str ("emits " ++ c)) := add_str (by rw [l6]; omega)
  have hx0 : ∀ (ρ : Sl) (a : E1), a ρ = some D → rE2 fIx a (rC (.int 0)) ρ = some (.str "emits") := fun ρ a h => e2_ok (x := D) h rfl rfl
  have hs59 : 59 ∉ TL.tl (" " : Str) := by decide +kernel
  have he59 : 59 ∉ TL.tl ("emits" : Str) := by decide +kernel
  have h0 : TL.tl ("emits" : Str) = [101, 109, 105, 116, 115] := by decide +kernel
  by_cases hns : ns = []
  · subst hns
    have htx : Part.text (.emits c []) = Txt.join " " ["emits", c] := by
      simp only [Part.text]
      rw [if_pos trivial]
    have hS : Short ["emits", c] := ⟨Nat.le_of_ble_eq_true rfl, fun y hy => by
      simp only [List.mem_cons, List.not_mem_nil, or_false] at hy
      rcases hy with rfl | rfl
      · rw [len_emits]; decide
      · omega⟩
    refine ⟨?_, ?_, ?_, emits_is hp hc hl hn, ⟨"emits", _, rfl, emits_ne⟩, ?_, ?_, ?_, n2⟩
    · rw [htx, ← emits_eq]
      have e2 : fAdd (.str ("emits " ++ c)) (.str "") = some (.str ("emits " ++ c)) := by
        have : ("emits " ++ c : Str) ++ ("" : Str) = "emits " ++ c := TL.ext_tl (by
          have h : TL.tl ("" : Str) = [] := by decide +kernel
          rw [TL.tl_append, h, List.append_nil])
        have h3 := add_str (x := "emits " ++ c) (y := "") (by
          have : ("" : Str).length = 0 := by decide +kernel
          rw [len_app, l6]
          omega)
        rw [this] at h3
        exact h3
      exact runB_rt ((sSeq_nx (sIf_nx (tVal_of (e2_ok (x := .str "emits") rfl rfl emits_ends)))).trans (sSeq_rt ((sIf_t (tVal_of (e2_ok (x := .str "emits") rfl rfl emits_self))).trans (sRet_ok (e2_ok (e2_ok rfl rfl e1) (rIf_f (tVal_of (e2_ok (x := .tuple []) rfl rfl hne)) rfl) e2)))))
    · rw [htx]
      exact runB_rt ((sSeq_nx (sIf_nx (tVal_of (e2_ok (x := .str "emits") rfl rfl emits_ends)))).trans (sSeq_rt ((sIf_t (tVal_of (e2_ok (x := .str "emits") rfl rfl emits_self))).trans ((sSeq_nx (ρ' := [some (.vl (.tuple [.str "emits", .str c, .tuple []])), some (.vl (.list [])), none]) (sAsg_ok (l := [(1, .list [])]) (rIf_f (tVal_of (e2_ok (x := .tuple []) rfl rfl hne)) rfl) rfl)).trans (sRet_ok (e2_ok rfl (y := .list ((["emits", c] : List Str).map .str)) rfl (join_ok hS len_sp)))))))
    · rw [htx]
      have hsp := split_ok tl_sp all_sp hS len_sp (by simp) (fun y hy => by
        simp only [List.mem_cons, List.not_mem_nil, or_false] at hy
        rcases hy with rfl | rfl
        · exact em32
        · exact f2)
      let X : PyData := .str (Txt.join " " ["emits", c])
      let WL : List PyData := [.str "emits", .str c]
      refine runB_rt ((sSeq_nx (ρ' := [some (.vl X), some (.vl (.list WL)), none, none, none]) (sAsg_ok (l := [(1, .list WL)]) (e2_ok (x := X) rfl rfl hsp) rfl)).trans ((sSeq_nx (sIf_nx (tAnd_f (tVal_of (e2_ok (x := .str "emits") rfl rfl emits_ends))))).trans (sSeq_rt ((sIf_t (tAnd_ok (x := true) (y := true) (tVal_of (e2_ok (x := .str "emits") rfl rfl emits_self)) (tVal_of (e2_ok (x := .int 2) rfl rfl (in23 2 (.inl rfl)))))).trans ?_))))
      exact (sMust (rCall_ok (ds := [.str c]) rfl rfl f1)).trans ((sSeq_nx (ρ' := [some (.vl X), some (.vl (.list WL)), none, some (.vl (.list [])), none]) rfl).trans (sRet_ok rfl))
    · rw [htx]
      exact join_free hs59 fun y hy => by
        simp only [List.mem_cons, List.not_mem_nil, or_false] at hy
        rcases hy with rfl | rfl
        · exact he59
        · exact f3
    · rw [htx, ← emits_eq, len_app, l6]
      omega
    · rw [htx, ← emits_eq, TL.tl_append]
      have : TL.tl ("emits " : Str) = [101, 109, 105, 116, 115, 32] := by decide +kernel
      rw [this]
      simp
  · have htx : Part.text (.emits c ns) = Txt.join " " ["emits", c, numsT ns] := by
      simp only [Part.text]
      rw [if_neg hns]
    have hne' : (!ns.isEmpty) = true := by
      cases ns with
      | nil => exact absurd rfl hns
      | cons a b => rfl
    rw [hne'] at hne
    have ln := nums_len hl hn
    have hS : Short ["emits", c, numsT ns] := ⟨Nat.le_of_ble_eq_true rfl, fun y hy => by
      simp only [List.mem_cons, List.not_mem_nil, or_false] at hy
      rcases hy with rfl | rfl | rfl
      · rw [len_emits]; decide
      · omega
      · omega⟩
    have hjn := join_ok (s := ",") (nums_short hl hn) (by rw [len_cm]; decide)
    refine ⟨?_, ?_, ?_, emits_is hp hc hl hn, ⟨"emits", _, rfl, emits_ne⟩, ?_, ?_, ?_, n2⟩
    · rw [htx, ← emits_eq3]
      have hlc := lc_ok (src := aTup (rE2 fIx (rVar 0) (rC (.int 2)))) (g := gN 1) (e := rCall 1 m__law_shown (aCons (rVar 1) aNil)) (vs := [1]) (ρ := [some (.vl D), none]) (xs := ns) (h := id) (f := fun x => .str (numT x)) (by rw [List.map_id]; rfl) (by omega) fun x hx => ⟨[(1, x)], rfl, rCall_ok (ds := [x]) rfl rfl (num_of hn hx).tx⟩
      rw [← nmap] at hlc
      have e2 : fAdd (.str " ") (.str (numsT ns)) = some (.str (" " ++ numsT ns)) := add_str (by rw [len_sp1]; omega)
      have e3 : fAdd (.str ("emits " ++ c)) (.str (" " ++ numsT ns)) = some (.str ("emits " ++ c ++ (" " ++ numsT ns))) := add_str (by rw [len_app, len_app, l6, len_sp1]; omega)
      exact runB_rt ((sSeq_nx (sIf_nx (tVal_of (e2_ok (x := .str "emits") rfl rfl emits_ends)))).trans (sSeq_rt ((sIf_t (tVal_of (e2_ok (x := .str "emits") rfl rfl emits_self))).trans (sRet_ok (e2_ok (e2_ok rfl rfl e1) (rIf_t (tVal_of (e2_ok (x := .tuple ns) rfl rfl hne)) (e2_ok rfl (e2_ok rfl hlc hjn) e2)) e3)))))
    · rw [htx]
      have hlc := lc_ok (src := aTup (rE2 fIx (rVar 0) (rC (.int 2)))) (g := gN 2) (e := rCall 1 m_show_number (aCons (rVar 2) aNil)) (vs := [2]) (ρ := [some (.vl D), none, none]) (xs := ns) (h := id) (f := fun x => .str (numT x)) (by rw [List.map_id]; rfl) (by omega) fun x hx => ⟨[(2, x)], rfl, rCall_ok (ds := [x]) rfl rfl (num_of hn hx).sh⟩
      rw [← nmap] at hlc
      exact runB_rt ((sSeq_nx (sIf_nx (tVal_of (e2_ok (x := .str "emits") rfl rfl emits_ends)))).trans (sSeq_rt ((sIf_t (tVal_of (e2_ok (x := .str "emits") rfl rfl emits_self))).trans ((sSeq_nx (ρ' := [some (.vl D), some (.vl (.list [.str (numsT ns)])), none]) (sAsg_ok (l := [(1, .list [.str (numsT ns)])]) (rIf_t (tVal_of (e2_ok (x := .tuple ns) rfl rfl hne)) (rA_ok (aC_ok (e2_ok rfl hlc hjn) rfl) rfl)) rfl)).trans (sRet_ok (e2_ok rfl (y := .list ((["emits", c, numsT ns] : List Str).map .str)) rfl (join_ok hS len_sp)))))))
    · rw [htx]
      have hsp := split_ok tl_sp all_sp hS len_sp (by simp) (fun y hy => by
        simp only [List.mem_cons, List.not_mem_nil, or_false] at hy
        rcases hy with rfl | rfl | rfl
        · exact em32
        · exact f2
        · exact nums_free (.inl rfl) hn)
      have hsp2 := split_ok tl_cm all_cm (nums_short hl hn) (by rw [len_cm]; decide) (fun z => hns (List.map_eq_nil_iff.mp z)) (fun y hy => by
        obtain ⟨x, hx, rfl⟩ := List.mem_map.mp hy
        exact (num_of hn hx).no 44 (by simp))
      rw [nmap] at hsp2
      let X : PyData := .str (Txt.join " " ["emits", c, numsT ns])
      let WL : List PyData := [.str "emits", .str c, .str (numsT ns)]
      let NL : PyData := .list (ns.map fun x => .str (numT x))
      have hlc := lc_ok (src := aList (rVar 3)) (g := gN 4) (e := rCall 1 m_number_in (aCons (rVar 4) aNil)) (vs := [4]) (ρ := [some (.vl X), some (.vl (.list WL)), none, some (.vl NL), none]) (xs := ns) (h := fun x => .str (numT x)) (f := id) rfl (by omega) fun x hx => ⟨[(4, .str (numT x))], rfl, rCall_ok (ds := [.str (numT x)]) rfl rfl (num_of hn hx).rd⟩
      rw [List.map_id] at hlc
      refine runB_rt ((sSeq_nx (ρ' := [some (.vl X), some (.vl (.list WL)), none, none, none]) (sAsg_ok (l := [(1, .list WL)]) (e2_ok (x := X) rfl rfl hsp) rfl)).trans ((sSeq_nx (sIf_nx (tAnd_f (tVal_of (e2_ok (x := .str "emits") rfl rfl emits_ends))))).trans (sSeq_rt ((sIf_t (tAnd_ok (x := true) (y := true) (tVal_of (e2_ok (x := .str "emits") rfl rfl emits_self)) (tVal_of (e2_ok (x := .int 3) rfl rfl (in23 3 (.inr rfl)))))).trans ?_))))
      exact (sMust (rCall_ok (ds := [.str c]) rfl rfl f1)).trans ((sSeq_nx (ρ' := [some (.vl X), some (.vl (.list WL)), none, some (.vl NL), none]) (sAsg_ok (l := [(3, NL)]) (rIf_t rfl (e2_ok (x := .str (numsT ns)) rfl rfl hsp2)) rfl)).trans (sRet_ok (rA_ok (aC_ok rfl (aC_ok rfl (aC_ok (rA_ok (aC_ok hlc rfl) rfl) rfl))) rfl)))
    · rw [htx]
      exact join_free hs59 fun y hy => by
        simp only [List.mem_cons, List.not_mem_nil, or_false] at hy
        rcases hy with rfl | rfl | rfl
        · exact he59
        · exact f3
        · exact nums_free (.inr rfl) hn
    · rw [htx, ← emits_eq3, len_app, len_app, len_app, l6, len_sp1]
      omega
    · rw [htx, ← emits_eq3, TL.tl_append, TL.tl_append]
      have : TL.tl ("emits " : Str) = [101, 109, 105, 116, 115, 32] := by decide +kernel
      rw [this]
      simp
end
/-! ### words alone -/
structure AloneW (w : Str) : Prop where
  e1 : fEq (.str w) (.str "ends") = some (.bool false)
  e2 : fEq (.str w) (.str "emits") = some (.bool false)
  e3 : fEq (.str w) (.str "all") = some (.bool false)
  n3 : fNe (.str w) (.str "all") = some (.bool true)
  i1 : fIn false (.str w) (.tuple [.str "unblocked", .str "faultless"]) = some (.bool true)
  i2 : fInTD (.list [.str w]) (.tuple [.list [.str "unblocked"], .list [.str "faultless"]]) = some (.bool true)
  sp : fSplit (.str w) (.str " ") = some (.list [.str w])
  se : 59 ∉ TL.tl w
  ln : w.length ≤ 1000
  ne : (TL.tl w).head? ≠ some 97
  ni : Nice 6 11000 (.tuple [.str w])
theorem alone_w {w : Str} (h : w = "unblocked" ∨ w = "faultless") : AloneW w := by
  rcases h with rfl | rfl <;> exact ⟨isO_ok (by decide +kernel), isO_ok (by decide +kernel), isO_ok (by decide +kernel), isO_ok (by decide +kernel), isO_ok (by decide +kernel), isO_ok (by decide +kernel), isO_ok (by decide +kernel), by decide +kernel, by decide +kernel, by decide +kernel, niceB_ok (by decide +kernel)⟩
theorem alone_f {p : PrG} {w : Str} (h : w = "unblocked" ∨ w = "faultless") : PartF p (.alone w) := by
  have A := alone_w h
  refine ⟨?_, ?_, ?_, fun n k => ?_, ⟨w, [], rfl, A.e3, A.n3⟩, A.se, A.ln, A.ne, A.ni⟩
  · exact runB_rt ((sSeq_nx (sIf_nx (tVal_of (e2_ok (x := .str w) rfl rfl A.e1)))).trans ((sSeq_nx (sIf_nx (tVal_of (e2_ok (x := .str w) rfl rfl A.e2)))).trans (sRet_ok rfl)))
  · exact runB_rt ((sSeq_nx (sIf_nx (tVal_of (e2_ok (x := .str w) rfl rfl A.e1)))).trans ((sSeq_nx (sIf_nx (tVal_of (e2_ok (x := .str w) rfl rfl A.e2)))).trans (sRet_ok rfl)))
  · exact runB_rt ((sSeq_nx (ρ' := [some (.vl (.str w)), some (.vl (.list [.str w])), none, none, none]) (sAsg_ok (l := [(1, .list [.str w])]) (e2_ok (x := .str w) rfl rfl A.sp) rfl)).trans ((sSeq_nx (sIf_nx (tAnd_f (tVal_of (e2_ok (x := .str w) rfl rfl A.e1))))).trans ((sSeq_nx (sIf_nx (tAnd_f (tVal_of (e2_ok (x := .str w) rfl rfl A.e2))))).trans ((sMust (e2_ok (x := .list [.str w]) rfl rfl A.i2)).trans (sRet_ok rfl)))))
  · exact runB_rt ((sSeq_nx (sIf_nx (within_start (n := n) (ρ := []) rfl))).trans ((sSeq_nx (ρ' := [some (.vl p.data), some (.vl (.tuple [.str w])), some (.vl k), some (.vl (.str w)), none]) rfl).trans ((sSeq_nx (sIf_nx (tVal_of (e2_ok (x := .str w) rfl rfl A.e1)))).trans ((sSeq_nx (sIf_nx (tVal_of (e2_ok (x := .str w) rfl rfl A.e2)))).trans ((sSeq_nx (sIf_nx (tVal_of (e2_ok (x := .str w) rfl rfl A.e3)))).trans (sRet_ok (rAnd_t (e2_ok (x := .str w) rfl rfl A.i1) rfl)))))))
theorem part_f {p : PrG} (hp : p.Ok) {q : Part} (h : POk p q) : PartF p q := by
  cases q with
  | ends t e => exact ends_f hp h
  | emits c ns => exact emits_f hp h
  | alone w => exact alone_f h
end K73

set_option maxHeartbeats 2000000
namespace K73
open PySem PySem.Spec PyProof.Rows L2 Pd
/-! ### all signs of a text are plain -/
def Low (x : Str) : Prop := ∀ c ∈ TL.tl x, c < 256
def lowB (x : Str) : Bool := x.cps.toList.all fun c => Nat.blt c 256
theorem lowB_ok {x : Str} (h : lowB x = true) : Low x := fun c hc => Nat.le_of_ble_eq_true (List.all_eq_true.mp h c hc)
theorem Low.app {x y : Str} (hx : Low x) (hy : Low y) : Low (x ++ y) := fun c hc => by
  rw [TL.tl_append] at hc
  rcases List.mem_append.mp hc with hc | hc
  · exact hx c hc
  · exact hy c hc
theorem Low.join {s : Str} : ∀ {ys : List Str}, Low s → (∀ y ∈ ys, Low y) → Low (Txt.join s ys) := fun {ys} hs hy => by
  rw [TL.join_eq]
  induction ys with
  | nil => intro c hc; cases hc
  | cons y ys ih =>
    cases ys with
    | nil => exact hy y (List.mem_cons_self ..)
    | cons z r => exact ((hy y (List.mem_cons_self ..)).app hs).app (ih fun w hw => hy w (List.mem_cons_of_mem _ hw))
theorem Low.strOk {x : Str} (h : Low x) : PyData.canLay0 (.str x) = true := by
  simp only [PyData.canLay0]
  unfold PyData.strOk
  rw [← Array.all_toList]
  exact List.all_eq_true.mpr fun c hc => decide_eq_true (Nat.lt_trans (h c hc) (by decide))
theorem low_const {i : Int} (h : i ∈ constsE) : Low (iStr' i) := by
  have h0 : ∀ i ∈ constsE, lowB (iStr' i) = true := by decide +kernel
  exact lowB_ok (h0 i h)
theorem low_task {i : Int} (h0 : 0 ≤ i) (h3 : i < 3) : Low (iStr' i) := by
  have : i = 0 ∨ i = 1 ∨ i = 2 := by omega
  rcases this with rfl | rfl | rfl <;> exact lowB_ok (by decide +kernel)
theorem low_var {x : Str} (h : x ∈ varsM) : Low x := by
  have h0 : ∀ x ∈ varsM, lowB x = true := by decide +kernel
  exact lowB_ok (h0 x h)
theorem low_chan {x : Str} (h : x ∈ chanM) : Low x := by
  have h0 : ∀ x ∈ chanM, lowB x = true := by decide +kernel
  exact lowB_ok (h0 x h)
theorem low_num0 : numsM.all (fun d => lowB (numT d)) = true := by decide +kernel
theorem low_num {d : PyData} (h : d ∈ numsM) : Low (numT d) := lowB_ok (List.all_eq_true.mp low_num0 d h)
theorem low_op {o : Nat} (h : o < 3) : Low (opS o) := by
  rcases op_cases h with rfl | rfl | rfl <;> exact lowB_ok (by decide +kernel)
theorem low_ex {vs : List Str} (hv : ∀ v ∈ vs, v ∈ varsM) : ∀ (j : Nat) (e : Ex), EOk vs j e → Low e.text
  | 0, _, h => h.elim
  | j + 1, .num i, h => low_const h
  | j + 1, .var x, h => low_var (hv x h)
  | j + 1, .pair o a b, ⟨ho, _, ha, hb⟩ => ((((lowB_ok (x := "(") (by decide +kernel)).app (low_ex hv j a ha)).app (low_op ho)).app (low_ex hv j b hb)).app (lowB_ok (x := ")") (by decide +kernel))
theorem low_sp : Low " " := lowB_ok (by decide +kernel)
theorem part_low {p : PrG} (hp : p.Ok) {q : Part} (h : POk p q) : Low q.text := by
  cases q with
  | ends t e =>
    refine Low.join low_sp fun y hy => ?_
    simp only [List.mem_cons, List.not_mem_nil, or_false] at hy
    rcases hy with rfl | rfl | rfl
    · exact lowB_ok (by decide +kernel)
    · exact low_task h.1 (by have := h.2.1; have := hp.l3; omega)
    · exact low_ex (vars_in hp.v) 4 e h.2.2
  | emits c ns =>
    have hc := low_chan (chans_in hp.c c h.1)
    have he : Low "emits" := lowB_ok (by decide +kernel)
    have hn : Low (numsT ns) := Low.join (lowB_ok (by decide +kernel)) fun y hy => by
      obtain ⟨x, hx, rfl⟩ := List.mem_map.mp hy
      exact low_num (h.2.2 x hx)
    simp only [Part.text]
    split
    · refine Low.join low_sp fun y hy => ?_
      simp only [List.mem_cons, List.not_mem_nil, or_false] at hy
      rcases hy with rfl | rfl
      · exact he
      · exact hc
    · refine Low.join low_sp fun y hy => ?_
      simp only [List.mem_cons, List.not_mem_nil, or_false] at hy
      rcases hy with rfl | rfl | rfl
      · exact he
      · exact hc
      · exact hn
  | alone w =>
    rcases h with rfl | rfl <;> exact lowB_ok (by decide +kernel)
/-! ### lists that are empty or not -/
theorem ne_nilL {ds : List PyData} (h : SeqAt.shaped (.list ds) = true) : fNe (.list ds) (.list []) = some (.bool (!ds.isEmpty)) := by
  have h2 : SeqAt.shaped (.list []) = true := by decide +kernel
  show (if (SeqAt.shaped (.list ds) && SeqAt.shaped (.list [])) = true then some (PyData.bool (!(PyData.list ds).eqv (.list []))) else none) = _
  rw [h, h2]
  cases ds with
  | nil => simp [PyData.eqv, PyData.eqvAll]
  | cons x xs => simp [PyData.eqv, PyData.eqvAll]
theorem shaped_lst {k L : Nat} {ds : List PyData} (h : ∀ d ∈ ds, Nice k L d) (hk : k ≤ 48) : SeqAt.shaped (.list ds) = true := by
  obtain ⟨h1, h2⟩ := nice_lst h
  exact shaped_of h1 (by omega)
theorem shaped_strs {ys : List Str} (h : ∀ y ∈ ys, Low y) : SeqAt.shaped (.list (ys.map .str)) = true := by
  refine shaped_of ?_ ?_
  · simp only [PyData.canLay0]
    have : ∀ {ys : List Str}, (∀ y ∈ ys, Low y) → PyData.canLayAll0 (ys.map .str) = true := fun {ys} => by
      induction ys with
      | nil => intro _; simp [PyData.canLayAll0]
      | cons y ys ih =>
        intro h
        show PyData.canLayAll0 (PyData.str y :: ys.map PyData.str) = true
        simp only [PyData.canLayAll0, (h y (List.mem_cons_self ..)).strOk, ih fun z hz => h z (List.mem_cons_of_mem _ hz), Bool.and_self]
    exact this h
  · have : (PyData.list (ys.map .str)).depth ≤ 0 + 1 := depth_lst fun d hd => by
      obtain ⟨y, _, rfl⟩ := List.mem_map.mp hd
      simp [PyData.depth]
    omega
/-! ### parts within parts, one behind the other -/
theorem all_head {ds : List PyData} : fNe (.str "all") (.str "all") = some (.bool false) := isO_ok (by decide +kernel)
theorem all_self : fEq (.str "all") (.str "all") = some (.bool true) := fEq_str _
def bodyFl (n : Nat) : B1 := sAsg (gN 1) (rE2 fAdd (rVar 1) (rCall 1 (m__law_flat n) (aCons (rVar 2) aNil)))
theorem flat_loop {n : Nat} {D : PyData} : ∀ (xs : List (PyData × List PyData)) (done : List PyData) (x2 : Option Cell), (∀ x ∈ xs, m__law_flat n [x.1] = some (.list x.2) ∧ x.2.length ≤ 100) → done.length + 100 * xs.length ≤ 100000 →
    ∃ y2, forD (gN 2) (bodyFl n) (xs.map (·.1)) [some (.vl D), some (.vl (.list done)), x2] = some (.nx [some (.vl D), some (.vl (.list (done ++ (xs.map (·.2)).flatten))), y2])
  | [], done, x2, _, _ => ⟨x2, by rw [List.map_nil, List.map_nil, List.flatten_nil, List.append_nil]; rfl⟩
  | x :: xs, done, x2, h, hl => by
    rw [List.length_cons] at hl
    obtain ⟨h1, h2⟩ := h x (List.mem_cons_self ..)
    obtain ⟨y2, ih⟩ := flat_loop (D := D) xs (done ++ x.2) (some (.vl x.1)) (fun y hy => h y (List.mem_cons_of_mem _ hy)) (by rw [List.length_append]; omega)
    refine ⟨y2, ?_⟩
    have hadd : fAdd (.list done) (.list x.2) = some (.list (done ++ x.2)) := by
      show (none : Option PyData).or ((none : Option PyData).or (if done.length + x.2.length ≤ 16777216 then some (PyData.list (done ++ x.2)) else none)) = _
      rw [if_pos (by omega)]
      rfl
    have hb : bodyFl n [some (.vl D), some (.vl (.list done)), some (.vl x.1)] = some (.nx [some (.vl D), some (.vl (.list (done ++ x.2))), some (.vl x.1)]) :=
      sAsg_ok (l := [(1, .list (done ++ x.2))]) (e2_ok (x := .list done) rfl (rCall_ok (ds := [x.1]) rfl rfl h1) hadd) rfl
    rw [List.map_cons, List.map_cons, List.flatten_cons]
    show (match bodyFl n [some (.vl D), some (.vl (.list done)), some (.vl x.1)] with
      | some (.nx ρ') => forD (gN 2) (bodyFl n) (xs.map Prod.fst) ρ'
      | some (.ct ρ') => forD (gN 2) (bodyFl n) (xs.map Prod.fst) ρ'
      | some (.bk ρ') => some (.nx ρ')
      | some (.rt d) => some (.rt d)
      | none => none) = _
    rw [hb]
    show forD (gN 2) (bodyFl n) _ _ = _
    rw [ih, List.append_assoc]
theorem flat_all {n : Nat} {xs : List (PyData × List PyData)} (h : ∀ x ∈ xs, m__law_flat n [x.1] = some (.list x.2) ∧ x.2.length ≤ 100) (hl : xs.length ≤ 100) : m__law_flat (n + 1) [allD (xs.map (·.1))] = some (.list (xs.map (·.2)).flatten) := by
  let D : PyData := allD (xs.map (·.1))
  obtain ⟨y2, hf⟩ := flat_loop (D := D) xs [] none h (by show 0 + _ ≤ _; omega)
  rw [List.nil_append] at hf
  refine runB_rt ((sSeq_nx (sIf_nx (tVal_of (e2_ok (x := .str "all") rfl rfl (all_head (ds := [])))))).trans ((sSeq_nx (ρ' := [some (.vl D), some (.vl (.list [])), none]) rfl).trans ((sSeq_nx (ρ' := [some (.vl D), some (.vl (.list (xs.map (·.2)).flatten)), y2]) ?_).trans (sRet_ok rfl))))
  unfold sFor
  exact hf
theorem flat_part {p : PrG} {q : Part} (n : Nat) (F : PartF p q) : m__law_flat (n + 1) [q.data] = some (.list [q.data]) := by
  obtain ⟨w, r, e, h1, h2⟩ := F.hd
  rw [e]
  exact runB_rt (sSeq_rt ((sIf_t (tVal_of (e2_ok (e2_ok (x := .tuple (.str w :: r)) rfl rfl (ix_t (j := 0) rfl)) rfl h2))).trans (sRet_ok rfl)))
/-- requirements of so many parts -/
def Many (p : PrG) : Rq → Prop
  | .one q => POk p q
  | .all ps sub => ps.length ≤ 8 ∧ (∀ q ∈ ps, POk p q) ∧ ∀ qs, sub = some qs → qs.length ≤ 8 ∧ ∀ q ∈ qs, POk p q
theorem many_of {p : PrG} {r : Rq} (h : ROk p r) : Many p r := by
  cases r with
  | one q => exact h
  | all ps sub =>
    obtain ⟨h1, h2, h3⟩ := h
    exact ⟨by omega, h2, fun qs e => ⟨by have := (h3 qs e).1; omega, (h3 qs e).2⟩⟩
theorem many_flat {p : PrG} {r : Rq} (h : Many p r) : r.flat.length ≤ 16 ∧ ∀ q ∈ r.flat, POk p q := by
  cases r with
  | one q => exact ⟨by show 1 ≤ 16; decide, fun z hz => by rw [List.mem_singleton.mp hz]; exact h⟩
  | all ps sub =>
    obtain ⟨h1, h2, h3⟩ := h
    cases sub with
    | none => exact ⟨by show ps.length ≤ 16; omega, h2⟩
    | some qs =>
      obtain ⟨h4, h5⟩ := h3 qs rfl
      refine ⟨by show (ps ++ qs).length ≤ 16; rw [List.length_append]; omega, fun z hz => ?_⟩
      rcases List.mem_append.mp hz with hz | hz
      · exact h2 z hz
      · exact h5 z hz
theorem flat_parts {p : PrG} (hp : p.Ok) {qs : List Part} (n : Nat) (h : ∀ q ∈ qs, POk p q) (hl : qs.length ≤ 100) : m__law_flat (n + 2) [allD (qs.map Part.data)] = some (.list (qs.map Part.data)) := by
  have := flat_all (n := n + 1) (xs := qs.map fun q => (q.data, [q.data])) (fun x hx => by
    obtain ⟨q, hq, rfl⟩ := List.mem_map.mp hx
    exact ⟨flat_part n (part_f hp (h q hq)), by show 1 ≤ 100; decide⟩) (by rw [List.length_map]; exact hl)
  rw [List.map_map, List.map_map] at this
  have e2 : ((qs.map ((fun x : PyData × List PyData => x.2) ∘ fun q : Part => (q.data, [q.data]))).flatten) = qs.map Part.data := by
    have : ∀ qs : List Part, (qs.map ((fun x : PyData × List PyData => x.2) ∘ fun q : Part => (q.data, [q.data]))).flatten = qs.map Part.data := fun qs => by
      induction qs with
      | nil => rfl
      | cons q qs ih => rw [List.map_cons, List.flatten_cons, ih]; rfl
    exact this qs
  rw [e2] at this
  exact this
theorem rq_flat {p : PrG} (hp : p.Ok) {r : Rq} (h : Many p r) : m__law_flat 4 [r.data] = some (.list (r.flat.map Part.data)) := by
  cases r with
  | one q => exact flat_part 3 (part_f hp h)
  | all ps sub =>
    obtain ⟨h1, h2, h3⟩ := h
    cases sub with
    | none =>
      have := flat_parts hp (qs := ps) 2 h2 (by omega)
      have e : Rq.data (.all ps none) = allD (ps.map Part.data) := by
        show allD (ps.map Part.data ++ []) = _
        rw [List.append_nil]
      rw [e]
      exact this
    | some qs =>
      obtain ⟨h4, h5⟩ := h3 qs rfl
      have := flat_all (n := 3) (xs := ps.map (fun q => (q.data, [q.data])) ++ [(allD (qs.map Part.data), qs.map Part.data)]) (fun x hx => by
        rcases List.mem_append.mp hx with hx | hx
        · obtain ⟨q, hq, rfl⟩ := List.mem_map.mp hx
          exact ⟨flat_part 2 (part_f hp (h2 q hq)), by show 1 ≤ 100; decide⟩
        · rw [List.mem_singleton.mp hx]
          exact ⟨flat_parts hp 1 h5 (by omega), by show (qs.map Part.data).length ≤ 100; rw [List.length_map]; omega⟩) (by rw [List.length_append, List.length_map]; show ps.length + 1 ≤ 100; omega)
      rw [List.map_append, List.map_append, List.map_map, List.map_map, List.flatten_append] at this
      have e2 : ((ps.map ((fun x : PyData × List PyData => x.2) ∘ fun q : Part => (q.data, [q.data]))).flatten) = ps.map Part.data := by
        have : ∀ qs : List Part, (qs.map ((fun x : PyData × List PyData => x.2) ∘ fun q : Part => (q.data, [q.data]))).flatten = qs.map Part.data := fun qs => by
          induction qs with
          | nil => rfl
          | cons q qs ih => rw [List.map_cons, List.flatten_cons, ih]; rfl
        exact this ps
      rw [e2] at this
      have e3 : ps.map Part.data ++ ([(allD (qs.map Part.data), qs.map Part.data)].map (fun x : PyData × List PyData => x.2)).flatten = (ps ++ qs).map Part.data := by
        rw [List.map_append]
        show ps.map Part.data ++ (qs.map Part.data ++ []) = _
        rw [List.append_nil]
      rw [e3] at this
      exact this
end K73

set_option maxHeartbeats 2000000
namespace K73
open PySem PySem.Spec PyProof.Rows L2 Pd
/-! ### nice requirements -/
theorem allD_nice {k L : Nat} {ds : List PyData} (h : ∀ d ∈ ds, Nice k L d) (hl : ds.length ≤ 10) (hL : 40 ≤ 10 * (L + 2) + 3) : Nice (k + 2) (2 * (10 * (L + 2) + 5) + 3) (allD ds) := by
  have n1 : Nice (k + 1) (10 * (L + 2) + 3) (.tuple ds) := (nice_tup h (by omega)).le (Nat.le_refl _) (by
    have : ds.length * (L + 2) ≤ 10 * (L + 2) := Nat.mul_le_mul hl (Nat.le_refl _)
    omega)
  have n2 := nice_tup (k := k + 1) (L := 10 * (L + 2) + 3) (ds := [.str "all", .tuple ds]) fun d hd => by
    simp only [List.mem_cons, List.not_mem_nil, or_false] at hd
    rcases hd with rfl | rfl
    · exact (niceB_ok (k := 0) (L := 40) (by decide +kernel)).le (by omega) hL
    · exact n1
  exact n2
theorem rq_nice {p : PrG} (hp : p.Ok) {r : Rq} (h : Many p r) : Nice 10 5000000 r.data := by
  cases r with
  | one q => exact (part_f hp h).nice.le (by decide) (by decide)
  | all ps sub =>
    obtain ⟨h1, h2, h3⟩ := h
    have hps : ∀ d ∈ ps.map Part.data, Nice 6 11000 d := fun d hd => by
      obtain ⟨q, hq, rfl⟩ := List.mem_map.mp hd
      exact (part_f hp (h2 q hq)).nice
    have key : ∀ d ∈ ps.map Part.data ++ subD sub, Nice 8 230000 d := fun d hd => by
      rcases List.mem_append.mp hd with hd | hd
      · exact (hps d hd).le (by decide) (by decide)
      · cases sub with
        | none => cases hd
        | some qs =>
          obtain ⟨h4, h5⟩ := h3 qs rfl
          rw [List.mem_singleton.mp hd]
          exact (allD_nice (k := 6) (L := 11000) (fun d hd => by
            obtain ⟨q, hq, rfl⟩ := List.mem_map.mp hd
            exact (part_f hp (h5 q hq)).nice) (by rw [List.length_map]; omega) (by decide)).le (by decide) (by decide)
    have hlen : (ps.map Part.data ++ subD sub).length ≤ 10 := by
      rw [List.length_append, List.length_map]
      cases sub with
      | none => show ps.length + 0 ≤ 10; omega
      | some qs => show ps.length + 1 ≤ 10; omega
    exact (allD_nice (k := 8) (L := 230000) key hlen (by decide)).le (by decide) (by decide)
/-! ### parts_of -/
def bodyPo : B1 := sSeq (sPop 1 3) (sIf (tVal (rE2 fEq (rE2 fIx (rVar 3) (rC (.int 0))) (rC (.str "all")))) (sExt 1 (rE1 fRev (rA fList (aCons (rE2 fIx (rVar 3) (rC (.int 1))) aNil)))) (sApp 2 (rVar 3)))
theorem pop_ok {R x d : PyData} {st fnd : List PyData} {x3 : Option Cell} : sPop 1 3 [some (.vl R), some (.ow (st ++ [d])), some (.ow fnd), x3] = some (.nx [some (.vl R), some (.ow st), some (.ow fnd), some (.vl d)]) := by
  show ((st ++ [d])[(st ++ [d]).length - 1]?).map (fun d' => Fl.nx [some (.vl R), some (.ow (st ++ [d]).dropLast), some (.ow fnd), some (.vl d')]) = _
  have e : (st ++ [d])[(st ++ [d]).length - 1]? = some d := by
    rw [List.length_append, List.length_singleton, Nat.add_sub_cancel, List.getElem?_append_right (Nat.le_refl _), Nat.sub_self]
    rfl
  rw [e, List.dropLast_concat]
  rfl
theorem po_step {n : Nat} {R d : PyData} {st fnd : List PyData} {x3 : Option Cell} {ρ' : Sl} (hs : SeqAt.shaped (.list (st ++ [d])) = true) (hb : bodyPo [some (.vl R), some (.ow (st ++ [d])), some (.ow fnd), x3] = some (.nx ρ')) : whD (tNeNil 1) bodyPo (n + 1) [some (.vl R), some (.ow (st ++ [d])), some (.ow fnd), x3] = whD (tNeNil 1) bodyPo n ρ' := by
  have ht : tNeNil 1 [some (.vl R), some (.ow (st ++ [d])), some (.ow fnd), x3] = some true := by
    show (if SeqAt.shaped (.list (st ++ [d])) = true then some (!(st ++ [d]).isEmpty) else none) = _
    rw [if_pos hs]
    cases st <;> rfl
  show (match tNeNil 1 [some (.vl R), some (.ow (st ++ [d])), some (.ow fnd), x3] with
    | none => none
    | some false => some (Fl.nx [some (.vl R), some (.ow (st ++ [d])), some (.ow fnd), x3])
    | some true => match bodyPo [some (.vl R), some (.ow (st ++ [d])), some (.ow fnd), x3] with
      | some (.nx ρ') => whD (tNeNil 1) bodyPo n ρ'
      | some (.ct ρ') => whD (tNeNil 1) bodyPo n ρ'
      | some (.bk ρ') => some (.nx ρ')
      | some (.rt d) => some (.rt d)
      | none => none) = _
  rw [ht, hb]
theorem po_part {p : PrG} {q : Part} (F : PartF p q) {R : PyData} {st fnd : List PyData} {x3 : Option Cell} (hf : fnd.length ≤ 1000) : bodyPo [some (.vl R), some (.ow (st ++ [q.data])), some (.ow fnd), x3] = some (.nx [some (.vl R), some (.ow st), some (.ow (fnd ++ [q.data])), some (.vl q.data)]) := by
  obtain ⟨w, r, e, h1, h2⟩ := F.hd
  refine (sSeq_nx (pop_ok (x := R))).trans ?_
  have ht : tVal (rE2 fEq (rE2 fIx (rVar 3) (rC (.int 0))) (rC (.str "all"))) [some (.vl R), some (.ow st), some (.ow fnd), some (.vl q.data)] = some false := by
    rw [e]
    exact tVal_of (e2_ok (e2_ok (x := .tuple (.str w :: r)) rfl rfl (ix_t (j := 0) rfl)) rfl h1)
  refine (sIf_f ht).trans ?_
  show (if fnd.length < 16777216 then some (Fl.nx [some (.vl R), some (.ow st), some (.ow (fnd ++ [q.data])), some (.vl q.data)]) else none) = _
  rw [if_pos (by omega)]
theorem po_all {ds : List PyData} {R : PyData} {st fnd : List PyData} {x3 : Option Cell} (hl : st.length + ds.length ≤ 1000) : bodyPo [some (.vl R), some (.ow (st ++ [allD ds])), some (.ow fnd), x3] = some (.nx [some (.vl R), some (.ow (st ++ ds.reverse)), some (.ow fnd), some (.vl (allD ds))]) := by
  refine (sSeq_nx (pop_ok (x := R))).trans ?_
  refine (sIf_t (tVal_of (e2_ok (x := .str "all") rfl rfl all_self))).trans ?_
  show (if st.length + ds.reverse.length ≤ 16777216 then some (Fl.nx [some (.vl R), some (.ow (st ++ ds.reverse)), some (.ow fnd), some (.vl (allD ds))]) else none) = _
  rw [if_pos (by rw [List.length_reverse]; omega)]
theorem po_parts {p : PrG} (hp : p.Ok) {R : PyData} {n : Nat} : ∀ (qs : List Part) (st fnd : List PyData) (x3 : Option Cell), (∀ q ∈ qs, POk p q) → (∀ d ∈ st, Nice 10 5000000 d) → fnd.length + qs.length ≤ 1000 →
    ∃ y3, whD (tNeNil 1) bodyPo (n + qs.length) [some (.vl R), some (.ow (st ++ (qs.map Part.data).reverse)), some (.ow fnd), x3] = whD (tNeNil 1) bodyPo n [some (.vl R), some (.ow st), some (.ow (fnd ++ qs.map Part.data)), y3]
  | [], st, fnd, x3, _, _, _ => ⟨x3, by rw [List.map_nil, List.reverse_nil, List.append_nil, List.append_nil]; rfl⟩
  | q :: qs, st, fnd, x3, h, hst, hl => by
    rw [List.length_cons] at hl
    have F := part_f hp (h q (List.mem_cons_self ..))
    obtain ⟨y3, ih⟩ := po_parts hp (R := R) (n := n) qs st (fnd ++ [q.data]) (some (.vl q.data)) (fun z hz => h z (List.mem_cons_of_mem _ hz)) hst (by rw [List.length_append, List.length_singleton]; omega)
    refine ⟨y3, ?_⟩
    rw [List.map_cons, List.reverse_cons, ← List.append_assoc, List.length_cons, ← Nat.add_assoc]
    rw [po_step ?_ (po_part F (by omega)), ih, List.append_assoc]
    · rfl
    · refine shaped_lst (k := 10) (L := 5000000) (fun d hd => ?_) (by decide)
      rcases List.mem_append.mp hd with hd | hd
      · rcases List.mem_append.mp hd with hd | hd
        · exact hst d hd
        · obtain ⟨z, hz, rfl⟩ := List.mem_map.mp (List.mem_reverse.mp hd)
          exact (part_f hp (h z (List.mem_cons_of_mem _ hz))).nice.le (by decide) (by decide)
      · rw [List.mem_singleton.mp hd]
        exact F.nice.le (by decide) (by decide)
theorem po_end {n : Nat} {R : PyData} {fnd : List PyData} {x3 : Option Cell} : whD (tNeNil 1) bodyPo (n + 1) [some (.vl R), some (.ow []), some (.ow fnd), x3] = some (.nx [some (.vl R), some (.ow []), some (.ow fnd), x3]) := by
  have h2 : SeqAt.shaped (.list []) = true := by decide +kernel
  have ht : tNeNil 1 [some (.vl R), some (.ow []), some (.ow fnd), x3] = some false := by
    show (if SeqAt.shaped (.list []) = true then some (!([] : List PyData).isEmpty) else none) = _
    rw [if_pos h2]
    rfl
  unfold whD
  rw [ht]
theorem rq_parts {p : PrG} (hp : p.Ok) {r : Rq} (h : Many p r) : m_parts_of [r.data] = some (.list (r.flat.map Part.data)) := by
  have hn := rq_nice hp h
  have key : ∃ y3, whD (tNeNil 1) bodyPo 60 [some (.vl r.data), some (.ow [r.data]), some (.ow []), none] = some (.nx [some (.vl r.data), some (.ow []), some (.ow (r.flat.map Part.data)), y3]) := by
    have sh1 : SeqAt.shaped (.list ([] ++ [r.data])) = true := shaped_lst (k := 10) (L := 5000000) (fun d hd => by rw [List.mem_singleton.mp hd]; exact hn) (by decide)
    cases r with
    | one q =>
      refine ⟨some (.vl q.data), ?_⟩
      have F := part_f hp h
      exact (po_step (n := 59) (st := []) sh1 (po_part F (by decide))).trans po_end
    | all ps sub =>
      obtain ⟨h1, h2, h3⟩ := h
      have hps : ∀ d ∈ ps.map Part.data, Nice 10 5000000 d := fun d hd => by
        obtain ⟨q, hq, rfl⟩ := List.mem_map.mp hd
        exact (part_f hp (h2 q hq)).nice.le (by decide) (by decide)
      have hlen : (ps.map Part.data ++ subD sub).length ≤ 10 := by
        rw [List.length_append, List.length_map]
        cases sub with
        | none => show ps.length + 0 ≤ 10; omega
        | some qs => show ps.length + 1 ≤ 10; omega
      have s1 := po_step (n := 59) (st := []) (fnd := []) (x3 := none) sh1 (po_all (R := Rq.data (.all ps sub)) (by show 0 + _ ≤ _; omega))
      rw [List.nil_append, List.nil_append, List.reverse_append] at s1
      cases sub with
      | none =>
        obtain ⟨y3, s2⟩ := po_parts hp (R := Rq.data (.all ps none)) (n := 59 - ps.length) ps [] [] (some (.vl (allD (ps.map Part.data ++ subD none)))) h2 (fun _ hd => by cases hd) (by show 0 + _ ≤ _; omega)
        rw [show 59 - ps.length + ps.length = 59 by omega, List.nil_append, List.nil_append] at s2
        refine ⟨y3, s1.trans (s2.trans ?_)⟩
        rw [show 59 - ps.length = (58 - ps.length) + 1 by omega]
        exact po_end
      | some qs =>
        obtain ⟨h4, h5⟩ := h3 qs rfl
        have hsub : ∀ d ∈ [allD (qs.map Part.data)], Nice 10 5000000 d := fun d hd => by
          rw [List.mem_singleton.mp hd]
          exact (allD_nice (k := 6) (L := 11000) (fun d hd => by
            obtain ⟨q, hq, rfl⟩ := List.mem_map.mp hd
            exact (part_f hp (h5 q hq)).nice) (by rw [List.length_map]; omega) (by decide)).le (by decide) (by decide)
        obtain ⟨y3, s2⟩ := po_parts hp (R := Rq.data (.all ps (some qs))) (n := 59 - ps.length) ps [allD (qs.map Part.data)] [] (some (.vl (allD (ps.map Part.data ++ subD (some qs))))) h2 hsub (by show 0 + _ ≤ _; omega)
        rw [show 59 - ps.length + ps.length = 59 by omega, List.nil_append] at s2
        have s3 := po_step (n := 58 - ps.length) (st := []) (fnd := ps.map Part.data) (x3 := y3) (R := Rq.data (.all ps (some qs))) (d := allD (qs.map Part.data)) (shaped_lst (k := 10) (L := 5000000) (fun d hd => hsub d hd) (by decide)) (po_all (by show 0 + (qs.map Part.data).length ≤ 1000; rw [List.length_map]; omega))
        rw [show 58 - ps.length + 1 = 59 - ps.length by omega, List.nil_append, List.nil_append] at s3
        obtain ⟨z3, s4⟩ := po_parts hp (R := Rq.data (.all ps (some qs))) (n := 58 - ps.length - qs.length) qs [] (ps.map Part.data) (some (.vl (allD (qs.map Part.data)))) h5 (fun _ hd => by cases hd) (by rw [List.length_map]; omega)
        rw [show 58 - ps.length - qs.length + qs.length = 58 - ps.length by omega, List.nil_append, ← List.map_append] at s4
        refine ⟨z3, s1.trans (s2.trans (s3.trans (s4.trans ?_)))⟩
        rw [show 58 - ps.length - qs.length = (57 - ps.length - qs.length) + 1 by omega]
        exact po_end
  obtain ⟨y3, key⟩ := key
  refine runB_rt ((sSeq_nx (ρ' := [some (.vl r.data), some (.ow [r.data]), some (.ow []), none]) rfl).trans ((sSeq_nx (ρ' := [some (.vl r.data), some (.ow []), some (.ow (r.flat.map Part.data)), y3]) key).trans rfl))
end K73

set_option maxHeartbeats 2000000
namespace K73
open PySem PySem.Spec PyProof.Rows L2 Pd
theorem tl_sc : TL.tl ("; " : Str) = 59 :: [32] := by decide +kernel
theorem all_sc : ("; " : Str).cps.all (· < 256) = true := by decide +kernel
theorem len_sc : ("; " : Str).length ≤ 10 := by decide +kernel
def rqT : List Part → Str
  | [] => "all"
  | q :: qs => Txt.join "; " ((q :: qs).map Part.text)
/-- read back: the one part, or all of them -/
def due : List Part → Rq
  | [q] => .one q
  | qs => .all qs none
theorem due_flat : ∀ l : List Part, (due l).flat = l
  | [] => rfl
  | [_] => rfl
  | _ :: _ :: _ => rfl
theorem due_many {p : PrG} {l : List Part} (h : ∀ q ∈ l, POk p q) (hl : l.length ≤ 8) : Many p (due l) := by
  match l, h, hl with
  | [], h, hl => exact ⟨hl, h, fun qs e => by cases e⟩
  | [q], h, hl => exact h q (List.mem_singleton.mpr rfl)
  | a :: b :: r, h, hl => exact ⟨hl, h, fun qs e => by cases e⟩
section
variable {p : PrG} {l : List Part}
theorem pmap (l : List Part) : (l.map Part.text).map PyData.str = l.map fun q => .str q.text := by
  rw [List.map_map]
  rfl
theorem rq_short (hp : p.Ok) (h : ∀ q ∈ l, POk p q) (hl : l.length ≤ 16) : Short (l.map Part.text) := ⟨by rw [List.length_map]; omega, fun y hy => by
  obtain ⟨q, hq, rfl⟩ := List.mem_map.mp hy
  have := (part_f hp (h q hq)).ln
  omega⟩
theorem rq_low (hp : p.Ok) (h : ∀ q ∈ l, POk p q) : ∀ y ∈ l.map Part.text, Low y := fun y hy => by
  obtain ⟨q, hq, rfl⟩ := List.mem_map.mp hy
  exact part_low hp (h q hq)
theorem datas_shaped (hp : p.Ok) (h : ∀ q ∈ l, POk p q) : SeqAt.shaped (.list (l.map Part.data)) = true := shaped_lst (k := 6) (L := 11000) (fun d hd => by
  obtain ⟨q, hq, rfl⟩ := List.mem_map.mp hd
  exact (part_f hp (h q hq)).nice) (by decide)
/-- joined, or the word all -/
theorem text_end {a : E1} {ρ : Sl} (hp : p.Ok) (h : ∀ q ∈ l, POk p q) (hl : l.length ≤ 16) {t : T1} (ht : t ρ = some (!l.isEmpty)) (ha : a ρ = some (.list ((l.map Part.text).map .str))) : rIf t (rE2 fJoin (rC (.str "; ")) a) (rC (.str "all")) ρ = some (.str (rqT l)) := by
  cases l with
  | nil => exact rIf_f ht rfl
  | cons q qs => exact rIf_t ht (e2_ok rfl ha (join_ok (rq_short hp h hl) len_sc))
theorem rq_show (hp : p.Ok) {r : Rq} (h : Many p r) : m_show_requirement [r.data] = some (.str (rqT r.flat)) := by
  obtain ⟨h16, hq⟩ := many_flat h
  have hlc := lc_ok (src := aList (rCall 1 m_parts_of (aCons (rVar 0) aNil))) (g := gN 2) (e := rCall 1 m_show_part (aCons (rVar 2) aNil)) (vs := [2]) (ρ := [some (.vl r.data), none, none]) (xs := r.flat) (h := Part.data) (f := fun q => .str q.text) (by
    have e : rCall 1 m_parts_of (aCons (rVar 0) aNil) [some (.vl r.data), none, none] = some (.list (r.flat.map Part.data)) := rCall_ok (ds := [r.data]) rfl rfl (rq_parts hp h)
    unfold aList
    rw [e]) (by omega) fun q hq' => ⟨[(2, q.data)], rfl, rCall_ok (ds := [q.data]) rfl rfl (part_f hp (hq q hq')).sh⟩
  rw [← pmap] at hlc
  let LL : PyData := .list ((r.flat.map Part.text).map .str)
  have hne : fNe LL (.list []) = some (.bool (!r.flat.isEmpty)) := (ne_nilL (shaped_strs (rq_low hp hq))).trans (by cases r.flat <;> rfl)
  exact runB_rt ((sSeq_nx (ρ' := [some (.vl r.data), some (.vl LL), none]) (sAsg_ok (l := [(1, LL)]) hlc rfl)).trans (sRet_ok (text_end hp hq h16 (tVal_of (e2_ok (x := LL) rfl rfl hne)) rfl)))
theorem rq_text (hp : p.Ok) {r : Rq} (h : Many p r) : m__law_requirement_text [r.data] = some (.str (rqT r.flat)) := by
  obtain ⟨h16, hq⟩ := many_flat h
  let DL : PyData := .list (r.flat.map Part.data)
  have hlc := lc_ok (src := aList (rVar 1)) (g := gN 2) (e := rCall 1 m__law_part_text (aCons (rVar 2) aNil)) (vs := [2]) (ρ := [some (.vl r.data), some (.vl DL), none]) (xs := r.flat) (h := Part.data) (f := fun q => .str q.text) rfl (by omega) fun q hq' => ⟨[(2, q.data)], rfl, rCall_ok (ds := [q.data]) rfl rfl (part_f hp (hq q hq')).tx⟩
  rw [← pmap] at hlc
  have hne : fNe DL (.list []) = some (.bool (!r.flat.isEmpty)) := (ne_nilL (datas_shaped hp hq)).trans (by cases r.flat <;> rfl)
  exact runB_rt ((sSeq_nx (ρ' := [some (.vl r.data), some (.vl DL), none]) (sAsg_ok (l := [(1, DL)]) (rCall_ok (ds := [r.data]) rfl rfl (rq_flat hp h)) rfl)).trans (sRet_ok (text_end hp hq h16 (tVal_of (e2_ok (x := DL) rfl rfl hne)) hlc)))
theorem due_data (l : List Part) : (due l).data = if l.length = 1 then (l.map Part.data).headD .none else allD (l.map Part.data) := by
  match l with
  | [] =>
    show allD ([] ++ []) = _
    rfl
  | [q] => rfl
  | a :: b :: r =>
    rw [if_neg (by rw [List.length_cons, List.length_cons]; omega)]
    show allD ((a :: b :: r).map Part.data ++ []) = _
    rw [List.append_nil]
theorem pick_due {ρ : Sl} {i : Nat} (hl : l.length ≤ 16) (hv : rVar i ρ = some (.list (l.map Part.data))) : rIf (tVal (rE2 fEq (rA fLen (aCons (rVar i) aNil)) (rC (.int 1)))) (rE2 fIx (rVar i) (rC (.int 0))) (rA mkTup (aCons (rC (.str "all")) (aCons (rA fTuple (aCons (rVar i) aNil)) aNil))) ρ = some (due l).data := by
  have hlen : rA fLen (aCons (rVar i) aNil) ρ = some (.int (l.length : Nat)) := rA_ok (aC_ok hv rfl) (by
    show some (PyData.int ((l.map Part.data).length : Nat)) = _
    rw [List.length_map])
  have ht : tVal (rE2 fEq (rA fLen (aCons (rVar i) aNil)) (rC (.int 1))) ρ = some (decide (((l.length : Nat) : Int) = 1)) := tVal_of (e2_ok hlen rfl rfl)
  rw [due_data]
  by_cases q : l.length = 1
  · rw [if_pos q]
    rw [decide_eq_true (by omega)] at ht
    match l, q with
    | [x], _ => exact rIf_t ht (e2_ok hv rfl (ix_l (j := 0) rfl))
  · rw [if_neg q]
    rw [decide_eq_false (by omega)] at ht
    exact rIf_f ht (rA_ok (aC_ok rfl (aC_ok (rA_ok (aC_ok hv rfl) rfl) rfl)) rfl)
theorem rq_back (hp : p.Ok) {r : Rq} (h : Many p r) : m__law_read_back [r.data] = some (due r.flat).data := by
  obtain ⟨h16, _⟩ := many_flat h
  let DL : PyData := .list (r.flat.map Part.data)
  exact runB_rt ((sSeq_nx (ρ' := [some (.vl r.data), some (.vl DL)]) (sAsg_ok (l := [(1, DL)]) (rCall_ok (ds := [r.data]) rfl rfl (rq_flat hp h)) rfl)).trans (sRet_ok (pick_due (i := 1) h16 rfl)))
/-! ### is_requirement -/
theorem all_ends : fEq (.str "all") (.str "ends") = some (.bool false) := isO_ok (by decide +kernel)
theorem all_emits : fEq (.str "all") (.str "emits") = some (.bool false) := isO_ok (by decide +kernel)
theorem within_all {n : Nat} {k : Int} {ds : List PyData} (hk : k ≠ 0) (hl : ds.length ≤ 1000) (h : ∀ d ∈ ds, m_is_within n [p.data, d, .int (k - 1)] = some (.bool true)) : m_is_within (n + 1) [p.data, allD ds, .int k] = some (.bool true) := by
  have hlc := lc_ok (src := aTup (rE2 fIx (rVar 1) (rC (.int 1)))) (g := gN 4) (e := rCall 3 (m_is_within n) (aCons (rVar 0) (aCons (rVar 4) (aCons (rE2 fSub (rVar 2) (rC (.int 1))) aNil)))) (vs := [4]) (ρ := [some (.vl p.data), some (.vl (allD ds)), some (.vl (.int k)), some (.vl (.str "all")), none]) (xs := ds) (h := id) (f := fun _ => .bool true) (by rw [List.map_id]; rfl) (by omega) fun d hd => ⟨[(4, d)], rfl, rCall_ok (ds := [p.data, d, .int (k - 1)]) rfl rfl (h d hd)⟩
  have hk0 : fEq (.int k) (.int 0) = some (.bool false) := by
    show some (PyData.bool (decide (k = 0))) = _
    rw [decide_eq_false hk]
  exact runB_rt ((sSeq_nx (sIf_nx (within_start (n := n) (ρ := []) rfl))).trans ((sSeq_nx (ρ' := [some (.vl p.data), some (.vl (allD ds)), some (.vl (.int k)), some (.vl (.str "all")), none]) rfl).trans ((sSeq_nx (sIf_nx (tVal_of (e2_ok (x := .str "all") rfl rfl all_ends)))).trans ((sSeq_nx (sIf_nx (tVal_of (e2_ok (x := .str "all") rfl rfl all_emits)))).trans (sSeq_rt ((sIf_t (tVal_of (e2_ok (x := .str "all") rfl rfl all_self))).trans ((sSeq_nx (sIf_nx (tOr_ok (x := false) (y := false) rfl (tOr_ok (x := false) (y := false) (tVal_of (e2_ok (x := .int k) rfl rfl hk0)) rfl)))).trans (sRet_ok (rA_ok (aC_ok hlc rfl) (all_t ds))))))))))
theorem rq_is (hp : p.Ok) {r : Rq} (h : Many p r) : m_is_requirement [p.data, r.data] = some (.bool true) := by
  have key : m_is_within 4 [p.data, r.data, .int 2] = some (.bool true) := by
    cases r with
    | one q => exact (part_f hp h).wi 3 _
    | all ps sub =>
      obtain ⟨h1, h2, h3⟩ := h
      have hlen : (ps.map Part.data ++ subD sub).length ≤ 10 := by
        rw [List.length_append, List.length_map]
        cases sub with
        | none => show ps.length + 0 ≤ 10; omega
        | some qs => show ps.length + 1 ≤ 10; omega
      refine within_all (n := 3) (k := 2) (by decide) (by omega) fun d hd => ?_
      rcases List.mem_append.mp hd with hd | hd
      · obtain ⟨q, hq, rfl⟩ := List.mem_map.mp hd
        exact (part_f hp (h2 q hq)).wi 2 _
      · cases sub with
        | none => cases hd
        | some qs =>
          obtain ⟨h4, h5⟩ := h3 qs rfl
          rw [List.mem_singleton.mp hd]
          refine within_all (n := 2) (k := 2 - 1) (by decide) (by rw [List.length_map]; omega) fun d hd => ?_
          obtain ⟨q, hq, rfl⟩ := List.mem_map.mp hd
          exact (part_f hp (h5 q hq)).wi 1 _
  exact runB_rt (sRet_ok (rCall_ok (ds := [p.data, r.data, .int 2]) rfl rfl key))
/-! ### read back -/
theorem text_ne (hp : p.Ok) (h : ∀ q ∈ l, POk p q) (hne : l ≠ []) : fNe (.str (rqT l)) (.str "all") = some (.bool true) := by
  show some (PyData.bool (!decide (rqT l = ("all" : Str)))) = _
  rw [decide_eq_false]
  · rfl
  · intro z
    cases l with
    | nil => exact hne rfl
    | cons q qs =>
      have F := (part_f hp (h q (List.mem_cons_self ..))).ne
      have hall : (TL.tl ("all" : Str)).head? = some 97 := by decide +kernel
      have e := congrArg (fun x : Str => (TL.tl x).head?) z
      have e' : (TL.tl (Txt.join "; " ((q :: qs).map Part.text))).head? = some 97 := e.trans hall
      rw [TL.join_eq, TL.tl_join, tl_sc, List.map_map, List.map_cons] at e'
      cases hq : TL.tl q.text with
      | nil =>
        cases qs with
        | nil =>
          have e2 : (TL.tl q.text).head? = some 97 := e'
          rw [hq] at e2
          cases e2
        | cons a r =>
          have e2 : (TL.tl q.text ++ ([59, 32] ++ TL.joinL [59, 32] ((a :: r).map (TL.tl ∘ Part.text)))).head? = some 97 := e'
          rw [hq] at e2
          cases e2
      | cons c cs =>
        rw [hq] at F
        cases qs with
        | nil =>
          have e2 : (TL.tl q.text).head? = some 97 := e'
          rw [hq] at e2
          exact F e2
        | cons a r =>
          have e2 : (TL.tl q.text ++ ([59, 32] ++ TL.joinL [59, 32] ((a :: r).map (TL.tl ∘ Part.text)))).head? = some 97 := e'
          rw [hq] at e2
          exact F e2
theorem rq_read (hp : p.Ok) (h : ∀ q ∈ l, POk p q) (hl : l.length ≤ 8) : m_read_requirement pfE [p.data, .str (rqT l)] = some (due l).data := by
  let X : PyData := .str (rqT l)
  let DL : PyData := .list (l.map Part.data)
  have hparts : rIf (tVal (rE2 fNe (rVar 1) (rC (.str "all")))) (rLc (aList (rE2 fSplit (rVar 1) (rC (.str "; ")))) (gN 4) tTrue (rCall 1 (m_part_in pfE) (aCons (rVar 4) aNil)) [4]) (rA mkLst aNil) [some (.vl p.data), some (.vl X), none, none, none] = some DL := by
    cases hc : l with
    | nil =>
      have e : X = .str "all" := by
        show PyData.str (rqT l) = _
        rw [hc]
        rfl
      rw [e]
      refine rIf_f (tVal_of (e2_ok (x := .str "all") rfl rfl (all_head (ds := [])))) ?_
      show some (PyData.list []) = _
      show _ = some (PyData.list (l.map Part.data))
      rw [hc]
      rfl
    | cons q qs =>
      have hne : l ≠ [] := by rw [hc]; simp
      have hsp := split_ok tl_sc all_sc (rq_short hp h (by omega)) len_sc (by rw [hc]; simp) (fun y hy => by
        obtain ⟨z, hz, rfl⟩ := List.mem_map.mp hy
        exact (part_f hp (h z hz)).se)
      rw [pmap] at hsp
      have hX : X = .str (Txt.join "; " (l.map Part.text)) := by
        show PyData.str (rqT l) = _
        rw [hc]
        rfl
      refine rIf_t (tVal_of (e2_ok (x := X) rfl rfl (text_ne hp h hne))) ?_
      have hs : aList (rE2 fSplit (rVar 1) (rC (.str "; "))) [some (.vl p.data), some (.vl X), none, none, none] = some (l.map fun q => .str q.text) := by
        unfold aList
        rw [e2_ok (a := rVar 1) (b := rC (.str "; ")) (x := X) rfl rfl (by rw [hX]; exact hsp)]
      exact lc_ok (src := aList (rE2 fSplit (rVar 1) (rC (.str "; ")))) (g := gN 4) (e := rCall 1 (m_part_in pfE) (aCons (rVar 4) aNil)) (vs := [4]) (xs := l) (h := fun q => .str q.text) (f := Part.data) hs (by omega) fun z hz => ⟨[(4, .str z.text)], rfl, rCall_ok (ds := [.str z.text]) rfl rfl (part_f hp (h z hz)).rd⟩
  have his := rq_is hp (due_many h hl)
  exact runB_rt ((sMust rfl).trans ((sSeq_nx (ρ' := [some (.vl p.data), some (.vl X), some (.vl DL), none, none]) (sAsg_ok (l := [(2, DL)]) hparts rfl)).trans ((sSeq_nx (ρ' := [some (.vl p.data), some (.vl X), some (.vl DL), some (.vl (due l).data), none]) (sAsg_ok (l := [(3, (due l).data)]) (pick_due (i := 2) (by omega) rfl) rfl)).trans ((sSeq_nx (sIf_nx (tNot_ok (x := true) (tVal_of (rCall_ok (ds := [p.data, (due l).data]) rfl rfl his))))).trans (sRet_ok rfl)))))
theorem ne_self (x : Str) : fNe (.str x) (.str x) = some (.bool false) := by
  show some (PyData.bool (!decide (x = x))) = _
  rw [decide_eq_true rfl]
  rfl
theorem rq_tuple (r : Rq) : ∃ ds, r.data = .tuple ds := by
  cases r with
  | one q => cases q <;> exact ⟨_, rfl⟩
  | all ps sub => exact ⟨_, rfl⟩
theorem requirement_right (hp : p.Ok) {r : Rq} (h : Many p r) (h8 : r.flat.length ≤ 8) : m__law_is_requirement_right pfE [p.data, r.data] = some (.bool true) := by
  obtain ⟨h16, hq⟩ := many_flat h
  have hd := due_many hq h8
  have nice := rq_nice hp h
  have niced := rq_nice hp hd
  obtain ⟨ds, hds⟩ := rq_tuple r
  have hrep : fRepr r.data = some (.str r.data.shown) := by
    rw [hds] at nice ⊢
    exact repr_ok nice (by decide) (by decide)
  let D : PyData := r.data
  let t : PyData := .str (rqT r.flat)
  let k : PyData := .str r.data.shown
  let E : PyData := (due r.flat).data
  let A3 : PyData := .list [t, t, .bool true]
  have hshow := rq_show hp h
  have hshowd := rq_show hp hd
  rw [due_flat] at hshowd
  have hread := rq_read hp hq h8
  have s1 : sPar 4 5 (aCons (rCall 1 m__law_requirement_text (aCons (rVar 1) aNil)) (aCons (rE1 fRepr (rVar 1)) aNil)) [some (.vl p.data), some (.vl D), none, none, none, none] = some (.nx [some (.vl p.data), some (.vl D), none, none, some (.vl t), some (.vl k)]) := by
    have e : aCons (rCall 1 m__law_requirement_text (aCons (rVar 1) aNil)) (aCons (rE1 fRepr (rVar 1)) aNil) [some (.vl p.data), some (.vl D), none, none, none, none] = some [t, k] := aC_ok (rCall_ok (ds := [D]) rfl rfl (rq_text hp h)) (aC_ok (e1_ok (x := D) rfl hrep) rfl)
    unfold sPar
    rw [e]
    rfl
  have h1 : rA mkLst (aCons (rCall 1 m_show_requirement (aCons (rVar 1) aNil)) (aCons (rCallK (["requirement"] : List Str).length false m_show_requirement (aCons (rVar 1) aNil)) (aCons (rCall 2 m_is_requirement (aCons (rVar 0) (aCons (rVar 1) aNil))) aNil))) [some (.vl p.data), some (.vl D), none, none, some (.vl t), some (.vl k)] = some A3 :=
    rA_ok (aC_ok (rCall_ok (ds := [D]) rfl rfl hshow) (aC_ok (rCallK_ok (ds := [D]) rfl rfl hshow) (aC_ok (rCall_ok (ds := [p.data, D]) rfl rfl (rq_is hp h)) rfl))) rfl
  have h2 : rA mkLst (aCons (rCall 2 (m_read_requirement pfE) (aCons (rVar 0) (aCons (rVar 4) aNil))) (aCons (rCallK (["program", "thing"] : List Str).length true (m_read_requirement pfE) (aCons (rVar 4) (aCons (rVar 0) aNil))) aNil)) [some (.vl p.data), some (.vl D), some (.vl A3), some (.vl E), some (.vl t), some (.vl k)] = some (.list [E, E]) :=
    rA_ok (aC_ok (rCall_ok (ds := [p.data, t]) rfl rfl hread) (aC_ok (rCallK_ok (ds := [t, p.data]) rfl rfl hread) rfl)) rfl
  refine runB_rt ((sSeq_nx s1).trans ((sSeq_nx (ρ' := [some (.vl p.data), some (.vl D), some (.vl A3), none, some (.vl t), some (.vl k)]) (sAsg_ok (l := [(2, A3)]) h1 rfl)).trans ((sSeq_nx (sIf_nx (tOr_ok (x := false) (y := false) (tNot_ok (x := true) (tVal_of (rCall_ok (ds := [A3, A3]) rfl rfl (same3 _)))) (tVal_of (e2_ok (e1_ok (x := D) rfl hrep) rfl (ne_self _)))))).trans ((sSeq_nx (ρ' := [some (.vl p.data), some (.vl D), some (.vl A3), some (.vl E), some (.vl t), some (.vl k)]) (sAsg_ok (l := [(3, E)]) (rCall_ok (ds := [D]) rfl rfl (rq_back hp h)) rfl)).trans ((sSeq_nx (ρ' := [some (.vl p.data), some (.vl D), some (.vl (.list [E, E])), some (.vl E), some (.vl t), some (.vl k)]) (sAsg_ok (l := [(2, .list [E, E])]) h2 rfl)).trans (sRet_ok ?_))))))
  have hE : m__law_same 14 [.list [E, E], .list [E, E]] = some (.bool true) := same2 niced.sm niced.dp
  have ht : m__law_same 14 [t, t] = some (.bool true) := same_ok 14 _ rfl (by show PyData.depth (.str _) < 14; simp [PyData.depth])
  exact rAnd_t (rCall_ok (ds := [.list [E, E], .list [E, E]]) rfl rfl hE) (rCall_ok (ds := [t, t]) (aC_ok (rCall_ok (ds := [E]) rfl rfl hshowd) rfl) rfl ht)
end
end K73

set_option maxHeartbeats 2000000
namespace K73
open PySem PySem.Spec PyProof.Rows L2 Pd
theorem ms_sm {xs : List (Nm × PyData)} (h : MsOk xs) : smallD (msD xs) = true ∧ (msD xs).depth ≤ 10 := by
  have h1 : ∀ q ∈ xs, ∀ d ∈ [nmD q.1, q.2], smallD d = true ∧ d.depth ≤ 2 := fun q hq d hd => by
    simp only [List.mem_cons, List.not_mem_nil, or_false] at hd
    rcases hd with rfl | rfl
    · exact ⟨(names_nice (h.nm q hq)).sm, (names_nice (h.nm q hq)).dp⟩
    · exact ⟨(nums_nice (h.nu q hq).1).sm, Nat.le_trans (nums_nice (h.nu q hq).1).dp (by decide)⟩
  refine ⟨small_tup (fun d hd => ?_) (by rw [List.length_map]; have := h.l4; omega), Nat.le_trans (depth_tup (k := 3) fun d hd => ?_) (by decide)⟩
  · obtain ⟨q, hq, rfl⟩ := List.mem_map.mp hd
    exact small_tup (fun d hd => (h1 q hq d hd).1) (Nat.le_of_ble_eq_true rfl)
  · obtain ⟨q, hq, rfl⟩ := List.mem_map.mp hd
    exact depth_tup fun d hd => (h1 q hq d hd).2
theorem flat8 {p : PrG} {r : Rq} (h : ROk p r) : r.flat.length ≤ 8 := by
  cases r with
  | one q => show 1 ≤ 8; decide
  | all ps sub =>
    obtain ⟨h1, _, h3⟩ := h
    cases sub with
    | none => show ps.length ≤ 8; omega
    | some qs =>
      show (ps ++ qs).length ≤ 8
      have := (h3 qs rfl).1
      rw [List.length_append]
      omega
theorem same_f {a b : E1} {ρ : Sl} {d : PyData} (ha : a ρ = some d) (hb : b ρ = some d) (h : m__law_same 14 [d, d] = some (.bool true)) : tNotD (tVal (rCall 2 (m__law_same 14) (aCons a (aCons b aNil)))) ρ = some false :=
  tNot_ok (x := true) (tVal_of (rCall_ok (ds := [d, d]) (aC_ok ha (aC_ok hb rfl)) rfl h))
theorem plain (w : World) : Plain w pfE := by
  intro s hs hcl
  have hb0 : Bud 3000 s := ⟨by rw [hs]; decide, by rw [hs]; decide, hcl⟩
  refine ⟨.int 3, rfl, 3, rfl, by decide, by decide, ?_⟩
  refine forN_inv (fun j ρ s => ∃ x2 x3 x4 x5 x6 x7 x8 x9 : Option Cell, ρ = [none, none, x2, x3, x4, x5, x6, x7, x8, x9] ∧ Bud (900 * j) s) ?_ _ _ _ _ ⟨none, none, none, none, none, none, none, none, rfl, hb0.le (by decide)⟩ ?_
  · rintro dt j ρ s K ⟨x2, x3, x4, x5, x6, x7, x8, x9, rfl, hb⟩ hK
    refine ⟨[(2, dt)], rfl, [], rfl, rfl, program_ok (n := 900 * j + 850) (hb.le (by omega)) fun p s1 hp hb1 => ⟨_, rfl, ?_⟩⟩
    have hrep : fRepr p.data = some (.str p.data.shown) := repr_ok (prog_nice hp) (by decide) (by decide)
    refine ⟨.str p.data.shown, e1_ok (x := p.data) rfl hrep, _, rfl, .int 4, rfl, 4, rfl, by decide, by decide, ?_⟩
    refine forN_inv (fun i ρ s => ∃ x5 x6 x7 x8 x9 : Option Cell, ρ = [none, none, some (.vl dt), some (.vl p.data), some (.vl (.str p.data.shown)), x5, x6, x7, x8, x9] ∧ Bud (900 * j + 211 * i) s) ?_ _ _ _ _ ⟨x5, x6, x7, x8, x9, rfl, hb1.le (by show 900 * j + 211 * 4 ≤ _; omega)⟩ ?_
    · rintro dg i ρ s K ⟨x5, x6, x7, x8, x9, rfl, hb⟩ hK
      -- the requirement
      refine ⟨[(5, dg)], rfl, p.data, rfl, [p.data], rfl, rfl, requirement_ok (n := 900 * j + 211 * i + 41) hp (hb.le (by omega)) fun r s2 hr hb2 => ⟨rfl, .bool true, requirement_right hp (many_of hr) (flat8 hr), true, rfl, ifs (fun z => by cases z) fun _ => ?_⟩⟩
      -- the sight
      refine ⟨[p.data], rfl, rfl, sight_ok (n := 900 * j + 211 * i + 31) hp hb2 fun sg s3 hsg hb3 => ⟨_, rfl, ?_⟩⟩
      obtain ⟨t, F⟩ := sight_f hp hsg
      refine ⟨.str t, rCall_ok (ds := [sg.data]) rfl rfl F.tx, _, rfl, ?_⟩
      refine ⟨.list [.str t, .str t, .bool true], rA_ok (aC_ok (rCall_ok (ds := [sg.data]) rfl rfl F.sh) (aC_ok (rCallK_ok (ds := [sg.data]) rfl rfl F.sh) (aC_ok (rCall_ok (ds := [p.data, sg.data]) rfl rfl F.is) rfl))) rfl, _, rfl, ?_⟩
      refine ⟨false, same_f rfl rfl (same3 t), ifs (fun z => by cases z) fun _ => ?_⟩
      refine ⟨.list [sg.data, sg.data], rA_ok (aC_ok (rCall_ok (ds := [p.data, .str t]) rfl rfl F.rd) (aC_ok (rCallK_ok (ds := [.str t, p.data]) rfl rfl F.rd) rfl)) rfl, _, rfl, ?_⟩
      refine ⟨false, same_f rfl rfl (same2 F.sm (Nat.le_trans F.dp (by decide))), ifs (fun z => by cases z) fun _ => ?_⟩
      -- the measure
      refine ⟨[], rfl, rfl, measure_ok (n := 900 * j + 211 * i + 6) hb3 fun xs s4 hx hb4 => ⟨_, rfl, ?_⟩⟩
      obtain ⟨m1, m2⟩ := ms_sm hx
      refine ⟨.str (msT xs), rCall_ok (ds := [msD xs]) rfl rfl (measure_text hx), _, rfl, ?_⟩
      refine ⟨.list [.str (msT xs), .str (msT xs), .bool true, .bool true], rA_ok (aC_ok (rCall_ok (ds := [msD xs]) rfl rfl (measure_show hx)) (aC_ok (rCallK_ok (ds := [msD xs]) rfl rfl (measure_show hx)) (aC_ok (rCall_ok (ds := [msD xs]) rfl rfl (measure_is hx)) (aC_ok (rCallK_ok (ds := [msD xs]) rfl rfl (measure_is hx)) rfl)))) rfl, _, rfl, ?_⟩
      refine ⟨false, same_f rfl rfl (same4 _), ifs (fun z => by cases z) fun _ => ?_⟩
      refine ⟨false, same_f (d := .list [msD xs, msD xs]) (rA_ok (aC_ok (rCall_ok (ds := [.str (msT xs)]) rfl rfl (measure_read hx)) (aC_ok (rCallK_ok (ds := [.str (msT xs)]) rfl rfl (measure_read hx)) rfl)) rfl) rfl (same2 m1 m2), ifs (fun z => by cases z) fun _ => ?_⟩
      -- the box
      refine ⟨p.data, rfl, [p.data], rfl, rfl, box_ok (n := 900 * j + 211 * i) hp hb4 fun bs s5 h1 h2 hb5 => ⟨rfl, .bool true, box_right ⟨hp, h1, h2⟩, true, rfl, ifs (fun z => by cases z) fun _ => ?_⟩⟩
      exact hK _ s5 ⟨_, _, _, _, _, rfl, hb5⟩
    · rintro ρ' s' ⟨x5, x6, x7, x8, x9, rfl, hb5⟩
      have hall : Many p (.all [] none) := ⟨by decide, fun q hq => (by cases hq), fun qs e => (by cases e)⟩
      refine ⟨[p.data, allD []], rfl, rfl, .bool true, requirement_right (r := .all [] none) hp hall (by show 0 ≤ 8; decide), true, rfl, ifs (fun z => by cases z) fun _ => ?_⟩
      refine ⟨false, tVal_of (e2_ok (e1_ok (x := p.data) rfl hrep) rfl (ne_self _)), ifs (fun z => by cases z) fun _ => ?_⟩
      exact hK _ s' ⟨_, _, _, _, _, _, _, _, rfl, hb5.le (by omega)⟩
  · rintro ρ' s' ⟨x2, x3, x4, x5, x6, x7, x8, x9, rfl, hb⟩
    exact ⟨_, rfl, rfl⟩
end K73

set_option maxHeartbeats 2000000
namespace K73
open PySem PySem.Spec PyProof.Rows L2 Pd
/-- the heap that the law's call starts from: the script at a, as it stands; or nothing, where the module itself holds it -/
theorem start_heap {P : Program} {w : World} {K : PySem.W.Frag} {h : Heap} {a : Addr} {vs : List Value} {ns : List Int} (KX : K.In h) (ha : h.get? a = some { cls := .type "list", data := .seq vs.toArray }) (hi : IntsAre vs ns) (hl : ns.length ≤ 63) :
    ∃ H : Hp, (∀ b u, H b = some u → b = a ∧ K.lookup a = none ∧ ∃ ob xs, u = .frz ob xs) ∧ SqL K H a (ns.map V.int) ∧ HOk P w H h := by
  have lv := hi.length
  have h63 : ns.length ≤ sizeLine := Nat.le_trans hl (by decide)
  cases hk : K.lookup a with
  | some o =>
    have e := (KX a o hk).symm.trans ha
    cases e
    exact ⟨fun _ => none, fun b u z => (by cases z), .inr ⟨_, vs.toArray, _, hk, rfl, rfl, rfl, by rw [List.size_toArray, lv]; exact h63, by simpa using vals_ints hi⟩, fun b u z => (by cases z)⟩
  | none =>
    let ob : Obj := { cls := .type "list", data := .seq vs.toArray }
    let H : Hp := upd (fun _ => none) a (.frz ob (.lst (ns.map V.int)))
    have at_a : ∀ b u, H b = some u → b = a ∧ u = .frz ob (.lst (ns.map V.int)) := fun b u z => by
      by_cases q : b = a
      · subst q
        have z' : upd (fun _ => none) b (HO.frz ob (.lst (ns.map V.int))) b = some u := z
        rw [upd_same] at z'
        cases z'
        exact ⟨rfl, rfl⟩
      · have z' : upd (fun _ => none) a (HO.frz ob (.lst (ns.map V.int))) b = some u := z
        rw [upd_ne q] at z'
        cases z'
    refine ⟨H, fun b u z => ?_, .inl (.inr ⟨ob, upd_same⟩), fun b u z => ?_⟩
    · obtain ⟨h1, h2⟩ := at_a b u z
      exact ⟨h1, rfl, ob, _, h2⟩
    · obtain ⟨rfl, rfl⟩ := at_a b u z
      exact ⟨ha, by rw [List.length_map]; exact h63, vs, _, vals_ints hi, ha⟩
/-- the law's call, by a promise that wants that nothing is being shown -/
theorem call_G {P : Program} {w : World} {K : PySem.W.Frag} {mg mb : Str → Option Value} {k : Nat} {fa a : Addr} {fd : FuncData} {x : Str} {s₁ : Shared} {vs : List Value} {ns : List Int}
    (KX : K.In s₁.heap) (hns : s₁.heap.Ns mainGlobals mg) (hb : s₁.heap.Ns builtinsNs mb) (hbb : ∀ x : Str, x ≠ "__name__" → mb x = bootBuiltins x) (hlim : s₁.heap.NoLimit) (hg : s₁.gens = #[])
    (ha : s₁.heap.get? a = some { cls := .type "list", data := .seq vs.toArray }) (hi : IntsAre vs ns) (hl : ns.length ≤ 63) (hr : Room k callerA)
    (F : ∀ base : Heap, FnG P w K mg base k fa fd [x] (spLaw K)) (hbind : ∀ (s : Shared) (u : Value), BindsTo s fd ⟨[u], []⟩ [(x, u)]) :
    codeAny (model P w) callerA (.call (.ref fa) ⟨[.ref a], []⟩) (fun r s' => r = .ok (.ret (.bool true)) ∧ OldK s₁.heap s'.heap ∧ s'.os = s₁.os ∧ AllBare s'.gens) s₁ := by
  obtain ⟨H, hA, hS, hok⟩ := start_heap (P := P) (w := w) KX ha hi hl
  -- what the start's heap knows is the script alone: all else stays in the base
  have kept : ∀ {b : Addr} {o : Obj}, s₁.heap.get? b = some o → (b = a → K.lookup a ≠ none ∨ H b = none) → (hidT s₁.heap H).get? b = some o := fun {b o} e z => by
    cases q : H b with
    | none => exact hidT_get e q
    | some u =>
      obtain ⟨h1, h2, _⟩ := hA b u q
      rcases z h1 with z | z
      · exact absurd h2 z
      · rw [q] at z; cases z
  have dicts : ∀ {b : Addr} {o : Obj} {es : Array DictEntry} {ep : Nat}, s₁.heap.get? b = some o → o.data = .dict es ep → (hidT s₁.heap H).get? b = some o := fun {b o es ep} e d => kept e fun z => by
    subst z
    rw [ha] at e
    cases e
    cases (d : Data.seq vs.toArray _ = Data.dict es ep)
  have names : ∀ {b : Addr} {m : Str → Option Value}, s₁.heap.Ns b m → (hidT s₁.heap H).Ns b m := fun {b m} n => by
    obtain ⟨o, es, ep, e, d, r⟩ := n
    exact ⟨o, es, ep, dicts e d, d, r⟩
  have inK : K.In (hidT s₁.heap H) := fun b o e => kept (KX b o e) fun z => .inl fun n => by
    subst z
    rw [e] at n
    cases n
  have lim2 : (hidT s₁.heap H).NoLimit := by
    obtain ⟨mc, l1, l2⟩ := hlim
    exact ⟨mc, names l1, l2⟩
  have e0 : Env0 P w K mg (hidT s₁.heap H) callerA [] s₁ H := ⟨rfl, ⟨inK, names hns, ⟨mb, names hb, hbb⟩, lim2⟩, fun b o e => of_hidT e, Nat.le_of_eq (hidT_size _ _), trivial, fun b z => absurd (show b ∈ ([] : List Addr) from z) (by simp), hok, .of_eq hg⟩
  have run := (F (hidT s₁.heap H)).run callerA [] s₁ H ⟨[.ref a], []⟩ [.ref a] [.ref a] (fun v _ => v = .bl true) (fun _ _ _ => False) hr rfl e0 (hbind s₁ (.ref a)) (.cons rfl .nil) ⟨a, ns, rfl, hS, hl, fun _ => rfl⟩
  refine codeAny_mono run fun r s' z => ?_
  match r, z with
  | .error e, z => exact (z : False).elim
  | .ok .next, z => exact (z : False).elim
  | .ok .brk, z => exact (z : False).elim
  | .ok .cont, z => exact (z : False).elim
  | .ok (.ret u), z =>
    obtain ⟨v, H', os, bare, un, hok', rv, hv⟩ := z
    have hv' : v = .bl true := hv
    subst hv'
    have hu : u = Value.bool true := rv
    subst hu
    refine ⟨rfl, OldK.of_keep fun b o e => ?_, os, bare⟩
    cases q : H b with
    | none => exact un.keep b o e q (fun z => absurd (show b ∈ ([] : List Addr) from z) (by simp)) (by simp)
    | some t =>
      obtain ⟨_, _, ob, xs, rfl⟩ := hA b t q
      have e1 := (hok b _ q).1
      have e2 := (hok' b _ (un.frzs b ob _ q)).1
      rw [e] at e1
      cases e1
      exact e2
end K73
open PySem PySem.W PySem.Calls PyProof.Rows
set_option maxHeartbeats 0 in
theorem PySem.Challenge.cw_speedwise_k73_texts_of_questions_there_a_holds : PySem.Challenge.rw_speedwise_k73_texts_of_questions_there_a.Holds := by
  w_on; o_law
  refine HandSHeadRun.head_any (r := OpenLaw.row PySem.Challenge.rw_speedwise_k73_texts_of_questions_there_a) (q := view (OpenLaw.row PySem.Challenge.rw_speedwise_k73_texts_of_questions_there_a).prog [111]) (H := K73.hk) (ob := K73.ob) (M := 20000) (loose := K73.loose) (d := HandSHeadRun.topDef (OpenLaw.row PySem.Challenge.rw_speedwise_k73_texts_of_questions_there_a).prog 111) (kwd := []) K73.ob_eq
    (by kernel_rfl) (fun s => by kernel_rfl) K73.run (by kernel_rfl) (by kernel_rfl) (by kernel_rfl) (by rfl) (by first | assumption | decide +kernel) (by decide +kernel) ⟨rfl, rfl, rfl, rfl, rfl, by decide +kernel⟩ ?hw ?hc
  case hw => w_witness2
  case hc =>
    refine Att.attach_call (n := 63) rfl (by kernel_rfl) fun w s₀ s₁ mg mb fa o pm cd doc a vs ns G Y ho hd hcd hmg0 hobj hints hlen hg => ?_
    have hmg : mg ("law" : PySem.Str) = some (.ref fa) := by
      have e : (HandSHeadRun.topDef (OpenLaw.row PySem.Challenge.rw_speedwise_k73_texts_of_questions_there_a).prog 111).name = ("law" : PySem.Str) := by kernel_rfl
      rw [← e]
      exact hmg0
    obtain ⟨K, KX, c⟩ := Y
    have T := K73.tp_of KX G.T.g c
    obtain ⟨f, fd, hf, hF, hB⟩ := K73.g_law (P := (PySem.Challenge.rw_speedwise_k73_texts_of_questions_there_a).prog) (w := w) T K73.pfE K73.pf_ok (K73.plain w)
    have ef := hmg.symm.trans hf
    cases ef
    exact K73.call_G (k := 70) (x := "script") KX G.T.g G.T.b G.T.builtins G.T.nolimit hg hobj hints hlen ⟨rfl, by decide, by decide⟩ hF hB
