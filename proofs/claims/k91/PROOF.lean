import PyProof.Rows.All
import Wide.All
import OpenK.AllK
import Wide.FinOn
import KE.KStateDown
import HandS.ForMost
import HandS.Exc
import HandS.WordsExc
import HandS.Defaults
import HandS.Star
import HandS.Walk
import HandS.Zip
import HandS.IsInst
import HandS.HeadHook3
import PySem.Challenge.RW_samepoint_k91_whole_program_texts_both_w
import HandS.Codes
import HandS.TupAny
import HandS.DeepEq
import HandS.OwnEq
import HandS.NoneIn
import HandS.WideBits
import KE.KUnpackStar
import HandS.Head0
import HandS.Head1
import HandS.Head2
import HandS.HeadEnd
import HandS.HeadHook4
import HandS.Ends
import KE.GoesMore
import HandS.Strs
import HandS.WordsDict
import HandS.MakeKwOnly
import HandS.DictComp
import HandS.More
import KE.KDictList
import HandS.ListItems
import HandS.DictEq
import HandS.FStr
import HandS.Text
import HandS.StrMore
import HandS.RaiseMore
import PyProof.StrLaws
import PyProof.ReprBulk
import HandS.Style
set_option Elab.async false
set_option linter.all false
set_option maxRecDepth 100000
/-! The text of law_k91 by its places, the facts that its top leaves, the slots of its defs (printed by gen_base.py). -/
namespace K91
open PySem L2
def top (i : Nat) : Stmt := PySem.Challenge.pw_samepoint_k91_whole_program_texts_both_w.main.body.getD i (.Pass ⟨0, 0, 0, 0⟩)
abbrev s_is_integer : Stmt := top 11
abbrev s_is_value : Stmt := top 12
abbrev s_is_name : Stmt := top 13
abbrev s_is_nested : Stmt := top 15
abbrev s_is_expression : Stmt := top 16
abbrev s_is_part : Stmt := top 26
abbrev s_is_statement : Stmt := top 27
abbrev s_is_body : Stmt := top 28
abbrev s_bodies_of : Stmt := top 29
abbrev s_statements_in : Stmt := top 30
abbrev s_check_box : Stmt := top 31
abbrev s_check_parameters : Stmt := top 32
abbrev s_check_definition : Stmt := top 33
abbrev s_check_tables : Stmt := top 34
abbrev s_Checker___init__ : Stmt := inClass (top 35) 0
abbrev s_Checker_check_body : Stmt := inClass (top 35) 2
abbrev s_Checker_check_form : Stmt := inClass (top 35) 3
abbrev s_Checker_check_uses : Stmt := inClass (top 35) 4
abbrev s_Program___init__ : Stmt := inClass (top 36) 0
abbrev s_Program_functions : Stmt := inClass (top 36) 2
abbrev s_Program_check_function : Stmt := inClass (top 36) 3
abbrev s_Program_parameters : Stmt := inClass (top 36) 4
abbrev s_Program_body : Stmt := inClass (top 36) 5
abbrev s_Program_boxes : Stmt := inClass (top 36) 6
abbrev s_Program___eq__ : Stmt := inClass (top 36) 11
abbrev s_Program___len__ : Stmt := inClass (top 36) 12
abbrev s_expression_text : Stmt := top 44
abbrev s_statement_words : Stmt := top 45
abbrev s_middle_words : Stmt := top 46
abbrev s_body_lines : Stmt := top 47
abbrev s_format_program : Stmt := top 48
abbrev s_number_in : Stmt := top 49
abbrev s_Row___init__ : Stmt := inClass (top 50) 0
abbrev s_Row_skip : Stmt := inClass (top 50) 1
abbrev s_Row_next_word : Stmt := inClass (top 50) 2
abbrev s_Row_next_name : Stmt := inClass (top 50) 3
abbrev s_Row_next_number : Stmt := inClass (top 50) 4
abbrev s_Row_next_expression : Stmt := inClass (top 50) 5
abbrev s_Row_next_part : Stmt := inClass (top 50) 6
abbrev s_Row_next_arguments : Stmt := inClass (top 50) 7
abbrev s_Row_is_read : Stmt := inClass (top 50) 8
abbrev s_Reader___init__ : Stmt := inClass (top 51) 0
abbrev s_Reader_next_line : Stmt := inClass (top 51) 2
abbrev s_Reader_is_next : Stmt := inClass (top 51) 3
abbrev s_Reader_row_behind : Stmt := inClass (top 51) 4
abbrev s_Reader_end_row : Stmt := inClass (top 51) 5
abbrev s_Reader_boxes : Stmt := inClass (top 51) 6
abbrev s_Reader_functions : Stmt := inClass (top 51) 7
abbrev s_Reader_body : Stmt := inClass (top 51) 8
abbrev s_Reader_statement : Stmt := inClass (top 51) 9
abbrev s_Reader_middle : Stmt := inClass (top 51) 10
abbrev s_parse_program : Stmt := top 52
abbrev s__law_source : Stmt := top 54
abbrev s__law_draw : Stmt := top 55
abbrev s__law_choose : Stmt := top 56
abbrev s__law_shuffled : Stmt := top 57
abbrev s__law_new_word : Stmt := top 58
abbrev s__law_new_words : Stmt := top 59
abbrev s__law_value : Stmt := top 60
abbrev s__law_expression : Stmt := top 61
abbrev s__law_tail : Stmt := top 62
abbrev s__law_entered : Stmt := top 63
abbrev s__law_nested : Stmt := top 64
abbrev s__law_statement : Stmt := top 65
abbrev s__law_body : Stmt := top 66
abbrev s__law_world : Stmt := top 67
abbrev s__law_definitions : Stmt := top 68
abbrev s__law_box_rows : Stmt := top 69
abbrev s__law_term_text : Stmt := top 70
abbrev s__law_line : Stmt := top 71
abbrev s__law_rows : Stmt := top 72
abbrev s__law_written : Stmt := top 73
abbrev s__law_text_right : Stmt := top 74
abbrev s__law_long_right : Stmt := top 75
abbrev s__law_cell_holds : Stmt := top 76
abbrev s_law : Stmt := top 77
/-! ### the defs, as the head tells them -/
def d_is_integer : He.DefD := ⟨("is_integer", none), "is_integer", "is_integer", defArgs s_is_integer, defBody s_is_integer, defScope s_is_integer, [], []⟩
def d_is_value : He.DefD := ⟨("is_value", none), "is_value", "is_value", defArgs s_is_value, defBody s_is_value, defScope s_is_value, [], []⟩
def d_is_name : He.DefD := ⟨("is_name", none), "is_name", "is_name", defArgs s_is_name, defBody s_is_name, defScope s_is_name, [], []⟩
def d_is_nested : He.DefD := ⟨("is_nested", none), "is_nested", "is_nested", defArgs s_is_nested, defBody s_is_nested, defScope s_is_nested, [], []⟩
def d_is_expression : He.DefD := ⟨("is_expression", none), "is_expression", "is_expression", defArgs s_is_expression, defBody s_is_expression, defScope s_is_expression, [], []⟩
def d_is_part : He.DefD := ⟨("is_part", none), "is_part", "is_part", defArgs s_is_part, defBody s_is_part, defScope s_is_part, [], []⟩
def d_is_statement : He.DefD := ⟨("is_statement", none), "is_statement", "is_statement", defArgs s_is_statement, defBody s_is_statement, defScope s_is_statement, [], []⟩
def d_is_body : He.DefD := ⟨("is_body", none), "is_body", "is_body", defArgs s_is_body, defBody s_is_body, defScope s_is_body, [], []⟩
def d_bodies_of : He.DefD := ⟨("bodies_of", none), "bodies_of", "bodies_of", defArgs s_bodies_of, defBody s_bodies_of, defScope s_bodies_of, [], []⟩
def d_statements_in : He.DefD := ⟨("statements_in", none), "statements_in", "statements_in", defArgs s_statements_in, defBody s_statements_in, defScope s_statements_in, [], []⟩
def d_check_box : He.DefD := ⟨("check_box", none), "check_box", "check_box", defArgs s_check_box, defBody s_check_box, defScope s_check_box, [], []⟩
def d_check_parameters : He.DefD := ⟨("check_parameters", none), "check_parameters", "check_parameters", defArgs s_check_parameters, defBody s_check_parameters, defScope s_check_parameters, [], []⟩
def d_check_definition : He.DefD := ⟨("check_definition", none), "check_definition", "check_definition", defArgs s_check_definition, defBody s_check_definition, defScope s_check_definition, [], []⟩
def d_check_tables : He.DefD := ⟨("check_tables", none), "check_tables", "check_tables", defArgs s_check_tables, defBody s_check_tables, defScope s_check_tables, [], []⟩
def d_Checker___init__ : He.DefD := ⟨("Checker", some "__init__"), "__init__", "Checker.__init__", defArgs s_Checker___init__, defBody s_Checker___init__, defScope s_Checker___init__, [], []⟩
def d_Checker_check_body : He.DefD := ⟨("Checker", some "check_body"), "check_body", "Checker.check_body", defArgs s_Checker_check_body, defBody s_Checker_check_body, defScope s_Checker_check_body, [], []⟩
def d_Checker_check_form : He.DefD := ⟨("Checker", some "check_form"), "check_form", "Checker.check_form", defArgs s_Checker_check_form, defBody s_Checker_check_form, defScope s_Checker_check_form, [], []⟩
def d_Checker_check_uses : He.DefD := ⟨("Checker", some "check_uses"), "check_uses", "Checker.check_uses", defArgs s_Checker_check_uses, defBody s_Checker_check_uses, defScope s_Checker_check_uses, [], []⟩
def d_Program___init__ : He.DefD := ⟨("Program", some "__init__"), "__init__", "Program.__init__", defArgs s_Program___init__, defBody s_Program___init__, defScope s_Program___init__, [], []⟩
def d_Program_functions : He.DefD := ⟨("Program", some "functions"), "functions", "Program.functions", defArgs s_Program_functions, defBody s_Program_functions, defScope s_Program_functions, [], []⟩
def d_Program_check_function : He.DefD := ⟨("Program", some "check_function"), "check_function", "Program.check_function", defArgs s_Program_check_function, defBody s_Program_check_function, defScope s_Program_check_function, [], []⟩
def d_Program_parameters : He.DefD := ⟨("Program", some "parameters"), "parameters", "Program.parameters", defArgs s_Program_parameters, defBody s_Program_parameters, defScope s_Program_parameters, [], []⟩
def d_Program_body : He.DefD := ⟨("Program", some "body"), "body", "Program.body", defArgs s_Program_body, defBody s_Program_body, defScope s_Program_body, [], []⟩
def d_Program_boxes : He.DefD := ⟨("Program", some "boxes"), "boxes", "Program.boxes", defArgs s_Program_boxes, defBody s_Program_boxes, defScope s_Program_boxes, [], []⟩
def d_Program___eq__ : He.DefD := ⟨("Program", some "__eq__"), "__eq__", "Program.__eq__", defArgs s_Program___eq__, defBody s_Program___eq__, defScope s_Program___eq__, [], []⟩
def d_Program___len__ : He.DefD := ⟨("Program", some "__len__"), "__len__", "Program.__len__", defArgs s_Program___len__, defBody s_Program___len__, defScope s_Program___len__, [], []⟩
def d_expression_text : He.DefD := ⟨("expression_text", none), "expression_text", "expression_text", defArgs s_expression_text, defBody s_expression_text, defScope s_expression_text, [], []⟩
def d_statement_words : He.DefD := ⟨("statement_words", none), "statement_words", "statement_words", defArgs s_statement_words, defBody s_statement_words, defScope s_statement_words, [], []⟩
def d_middle_words : He.DefD := ⟨("middle_words", none), "middle_words", "middle_words", defArgs s_middle_words, defBody s_middle_words, defScope s_middle_words, [], []⟩
def d_body_lines : He.DefD := ⟨("body_lines", none), "body_lines", "body_lines", defArgs s_body_lines, defBody s_body_lines, defScope s_body_lines, [], []⟩
def d_format_program : He.DefD := ⟨("format_program", none), "format_program", "format_program", defArgs s_format_program, defBody s_format_program, defScope s_format_program, [], []⟩
def d_number_in : He.DefD := ⟨("number_in", none), "number_in", "number_in", defArgs s_number_in, defBody s_number_in, defScope s_number_in, [], []⟩
def d_Row___init__ : He.DefD := ⟨("Row", some "__init__"), "__init__", "Row.__init__", defArgs s_Row___init__, defBody s_Row___init__, defScope s_Row___init__, [], []⟩
def d_Row_skip : He.DefD := ⟨("Row", some "skip"), "skip", "Row.skip", defArgs s_Row_skip, defBody s_Row_skip, defScope s_Row_skip, [], []⟩
def d_Row_next_word : He.DefD := ⟨("Row", some "next_word"), "next_word", "Row.next_word", defArgs s_Row_next_word, defBody s_Row_next_word, defScope s_Row_next_word, [], []⟩
def d_Row_next_name : He.DefD := ⟨("Row", some "next_name"), "next_name", "Row.next_name", defArgs s_Row_next_name, defBody s_Row_next_name, defScope s_Row_next_name, [], []⟩
def d_Row_next_number : He.DefD := ⟨("Row", some "next_number"), "next_number", "Row.next_number", defArgs s_Row_next_number, defBody s_Row_next_number, defScope s_Row_next_number, [], []⟩
def d_Row_next_expression : He.DefD := ⟨("Row", some "next_expression"), "next_expression", "Row.next_expression", defArgs s_Row_next_expression, defBody s_Row_next_expression, defScope s_Row_next_expression, [], [("nested", .int 0)]⟩
def d_Row_next_part : He.DefD := ⟨("Row", some "next_part"), "next_part", "Row.next_part", defArgs s_Row_next_part, defBody s_Row_next_part, defScope s_Row_next_part, [], []⟩
def d_Row_next_arguments : He.DefD := ⟨("Row", some "next_arguments"), "next_arguments", "Row.next_arguments", defArgs s_Row_next_arguments, defBody s_Row_next_arguments, defScope s_Row_next_arguments, [], []⟩
def d_Row_is_read : He.DefD := ⟨("Row", some "is_read"), "is_read", "Row.is_read", defArgs s_Row_is_read, defBody s_Row_is_read, defScope s_Row_is_read, [], []⟩
def d_Reader___init__ : He.DefD := ⟨("Reader", some "__init__"), "__init__", "Reader.__init__", defArgs s_Reader___init__, defBody s_Reader___init__, defScope s_Reader___init__, [], []⟩
def d_Reader_next_line : He.DefD := ⟨("Reader", some "next_line"), "next_line", "Reader.next_line", defArgs s_Reader_next_line, defBody s_Reader_next_line, defScope s_Reader_next_line, [], []⟩
def d_Reader_is_next : He.DefD := ⟨("Reader", some "is_next"), "is_next", "Reader.is_next", defArgs s_Reader_is_next, defBody s_Reader_is_next, defScope s_Reader_is_next, [], []⟩
def d_Reader_row_behind : He.DefD := ⟨("Reader", some "row_behind"), "row_behind", "Reader.row_behind", defArgs s_Reader_row_behind, defBody s_Reader_row_behind, defScope s_Reader_row_behind, [], []⟩
def d_Reader_end_row : He.DefD := ⟨("Reader", some "end_row"), "end_row", "Reader.end_row", defArgs s_Reader_end_row, defBody s_Reader_end_row, defScope s_Reader_end_row, [], []⟩
def d_Reader_boxes : He.DefD := ⟨("Reader", some "boxes"), "boxes", "Reader.boxes", defArgs s_Reader_boxes, defBody s_Reader_boxes, defScope s_Reader_boxes, [], []⟩
def d_Reader_functions : He.DefD := ⟨("Reader", some "functions"), "functions", "Reader.functions", defArgs s_Reader_functions, defBody s_Reader_functions, defScope s_Reader_functions, [], []⟩
def d_Reader_body : He.DefD := ⟨("Reader", some "body"), "body", "Reader.body", defArgs s_Reader_body, defBody s_Reader_body, defScope s_Reader_body, [], []⟩
def d_Reader_statement : He.DefD := ⟨("Reader", some "statement"), "statement", "Reader.statement", defArgs s_Reader_statement, defBody s_Reader_statement, defScope s_Reader_statement, [], []⟩
def d_Reader_middle : He.DefD := ⟨("Reader", some "middle"), "middle", "Reader.middle", defArgs s_Reader_middle, defBody s_Reader_middle, defScope s_Reader_middle, [], []⟩
def d_parse_program : He.DefD := ⟨("parse_program", none), "parse_program", "parse_program", defArgs s_parse_program, defBody s_parse_program, defScope s_parse_program, [], []⟩
def d__law_source : He.DefD := ⟨("_law_source", none), "_law_source", "_law_source", defArgs s__law_source, defBody s__law_source, defScope s__law_source, [], []⟩
def d__law_draw : He.DefD := ⟨("_law_draw", none), "_law_draw", "_law_draw", defArgs s__law_draw, defBody s__law_draw, defScope s__law_draw, [], []⟩
def d__law_choose : He.DefD := ⟨("_law_choose", none), "_law_choose", "_law_choose", defArgs s__law_choose, defBody s__law_choose, defScope s__law_choose, [], []⟩
def d__law_shuffled : He.DefD := ⟨("_law_shuffled", none), "_law_shuffled", "_law_shuffled", defArgs s__law_shuffled, defBody s__law_shuffled, defScope s__law_shuffled, [], []⟩
def d__law_new_word : He.DefD := ⟨("_law_new_word", none), "_law_new_word", "_law_new_word", defArgs s__law_new_word, defBody s__law_new_word, defScope s__law_new_word, [], []⟩
def d__law_new_words : He.DefD := ⟨("_law_new_words", none), "_law_new_words", "_law_new_words", defArgs s__law_new_words, defBody s__law_new_words, defScope s__law_new_words, [], []⟩
def d__law_value : He.DefD := ⟨("_law_value", none), "_law_value", "_law_value", defArgs s__law_value, defBody s__law_value, defScope s__law_value, [], []⟩
def d__law_expression : He.DefD := ⟨("_law_expression", none), "_law_expression", "_law_expression", defArgs s__law_expression, defBody s__law_expression, defScope s__law_expression, [], []⟩
def d__law_tail : He.DefD := ⟨("_law_tail", none), "_law_tail", "_law_tail", defArgs s__law_tail, defBody s__law_tail, defScope s__law_tail, [], []⟩
def d__law_entered : He.DefD := ⟨("_law_entered", none), "_law_entered", "_law_entered", defArgs s__law_entered, defBody s__law_entered, defScope s__law_entered, [], []⟩
def d__law_nested : He.DefD := ⟨("_law_nested", none), "_law_nested", "_law_nested", defArgs s__law_nested, defBody s__law_nested, defScope s__law_nested, [], []⟩
def d__law_statement : He.DefD := ⟨("_law_statement", none), "_law_statement", "_law_statement", defArgs s__law_statement, defBody s__law_statement, defScope s__law_statement, [], []⟩
def d__law_body : He.DefD := ⟨("_law_body", none), "_law_body", "_law_body", defArgs s__law_body, defBody s__law_body, defScope s__law_body, [], []⟩
def d__law_world : He.DefD := ⟨("_law_world", none), "_law_world", "_law_world", defArgs s__law_world, defBody s__law_world, defScope s__law_world, [], []⟩
def d__law_definitions : He.DefD := ⟨("_law_definitions", none), "_law_definitions", "_law_definitions", defArgs s__law_definitions, defBody s__law_definitions, defScope s__law_definitions, [], []⟩
def d__law_box_rows : He.DefD := ⟨("_law_box_rows", none), "_law_box_rows", "_law_box_rows", defArgs s__law_box_rows, defBody s__law_box_rows, defScope s__law_box_rows, [], []⟩
def d__law_term_text : He.DefD := ⟨("_law_term_text", none), "_law_term_text", "_law_term_text", defArgs s__law_term_text, defBody s__law_term_text, defScope s__law_term_text, [], []⟩
def d__law_line : He.DefD := ⟨("_law_line", none), "_law_line", "_law_line", defArgs s__law_line, defBody s__law_line, defScope s__law_line, [], []⟩
def d__law_rows : He.DefD := ⟨("_law_rows", none), "_law_rows", "_law_rows", defArgs s__law_rows, defBody s__law_rows, defScope s__law_rows, [], []⟩
def d__law_written : He.DefD := ⟨("_law_written", none), "_law_written", "_law_written", defArgs s__law_written, defBody s__law_written, defScope s__law_written, [], []⟩
def d__law_text_right : He.DefD := ⟨("_law_text_right", none), "_law_text_right", "_law_text_right", defArgs s__law_text_right, defBody s__law_text_right, defScope s__law_text_right, [], []⟩
def d__law_long_right : He.DefD := ⟨("_law_long_right", none), "_law_long_right", "_law_long_right", defArgs s__law_long_right, defBody s__law_long_right, defScope s__law_long_right, [], []⟩
def d__law_cell_holds : He.DefD := ⟨("_law_cell_holds", none), "_law_cell_holds", "_law_cell_holds", defArgs s__law_cell_holds, defBody s__law_cell_holds, defScope s__law_cell_holds, [], []⟩
def d_law : He.DefD := ⟨("law", none), "law", "law", defArgs s_law, defBody s_law, defScope s_law, [], []⟩
def fn0 : List He.DefD := [d_is_integer, d_is_value, d_is_name, d_is_nested, d_is_expression, d_is_part, d_is_statement, d_is_body, d_bodies_of, d_statements_in, d_check_box, d_check_parameters, d_check_definition, d_check_tables, d_Checker___init__, d_Checker_check_body, d_Checker_check_form, d_Checker_check_uses, d_Program___init__, d_Program_functions]
def fn1 : List He.DefD := [d_Program_check_function, d_Program_parameters, d_Program_body, d_Program_boxes, d_Program___eq__, d_Program___len__, d_expression_text, d_statement_words, d_middle_words, d_body_lines, d_format_program, d_number_in, d_Row___init__, d_Row_skip, d_Row_next_word, d_Row_next_name, d_Row_next_number, d_Row_next_expression, d_Row_next_part, d_Row_next_arguments]
def fn2 : List He.DefD := [d_Row_is_read, d_Reader___init__, d_Reader_next_line, d_Reader_is_next, d_Reader_row_behind, d_Reader_end_row, d_Reader_boxes, d_Reader_functions, d_Reader_body, d_Reader_statement, d_Reader_middle, d_parse_program, d__law_source, d__law_draw, d__law_choose, d__law_shuffled, d__law_new_word, d__law_new_words, d__law_value, d__law_expression]
def fn3 : List He.DefD := [d__law_tail, d__law_entered, d__law_nested, d__law_statement, d__law_body, d__law_world, d__law_definitions, d__law_box_rows, d__law_term_text, d__law_line, d__law_rows, d__law_written, d__law_text_right, d__law_long_right, d__law_cell_holds, d_law]
def fn : List He.DefD := fn0 ++ fn1 ++ fn2 ++ fn3
def kGlo0 : List Str := ["is_integer", "is_value", "is_name", "is_nested", "is_expression", "is_part", "is_statement", "is_body", "bodies_of", "statements_in", "check_box", "check_parameters", "check_definition", "check_tables", "expression_text", "statement_words", "middle_words", "body_lines", "format_program", "number_in"]
def kGlo1 : List Str := ["parse_program", "_law_source", "_law_draw", "_law_choose", "_law_shuffled", "_law_new_word", "_law_new_words", "_law_value", "_law_expression", "_law_tail", "_law_entered", "_law_nested", "_law_statement", "_law_body", "_law_world", "_law_definitions", "_law_box_rows", "_law_term_text", "_law_line", "_law_rows"]
def kGlo2 : List Str := ["_law_written", "_law_text_right", "_law_long_right", "_law_cell_holds", "law", "Checker", "Program", "Row", "Reader"]
def kGlo : List Str := kGlo0 ++ kGlo1 ++ kGlo2
def kRef0 : List Str := ["OPERATORS", "RULES", "SHAPES"]
def kRef : List Str := kRef0
def kFree0 : List Str := ["len", "isinstance", "all", "zip", "enumerate", "range", "list", "dict", "set", "tuple", "int", "str", "bool", "max", "min", "abs", "divmod", "repr"]
def kFree : List Str := kFree0
def kInt0 : List (Str × Int) := [("LIMIT", 1000000000000000000000000000000000000000000000000000000000000), ("MOST_LEVELS", 6), ("MOST_LETTERS", 8), ("MOST_FUNCTIONS", 12), ("MOST_BOXES", 8), ("MOST_PARAMETERS", 5), ("MOST_BODY", 20), ("MOST_DEPTH", 8), ("MOST_DIGITS", 61), ("MOST_NESTED", 100)]
def kInt : List (Str × Int) := kInt0
def kStr0 : List (Str × Str) := [("LETTERS", "abcdefghijklmnopqrstuvwxyz"), ("MAIN", "main"), ("DIGITS", "0123456789"), ("STEP", "  "), ("ELSE", "else"), ("HANDLE", "handle")]
def kStr : List (Str × Str) := kStr0
def kTup0 : List (Str × List Str) := [("OPERATORS", ["add", "sub", "mul", "div", "mod", "less", "same"]), ("RULES", ["sum", "least", "greatest"])]
def kTup : List (Str × List Str) := kTup0
def kCls0 : List Str := ["Checker", "Program", "Row", "Reader"]
def kCls : List Str := kCls0
def kMeth0 : List (Str × Str) := [("Checker", "check_body"), ("Checker", "check_form"), ("Checker", "check_uses"), ("Program", "functions"), ("Program", "check_function"), ("Program", "parameters"), ("Program", "body"), ("Program", "boxes"), ("Program", "__eq__"), ("Program", "__len__"), ("Row", "skip"), ("Row", "next_word"), ("Row", "next_name"), ("Row", "next_number"), ("Row", "next_expression"), ("Row", "next_part"), ("Row", "next_arguments"), ("Row", "is_read"), ("Reader", "next_line"), ("Reader", "is_next")]
def kMeth1 : List (Str × Str) := [("Reader", "row_behind"), ("Reader", "end_row"), ("Reader", "boxes"), ("Reader", "functions"), ("Reader", "body"), ("Reader", "statement"), ("Reader", "middle")]
def kMeth : List (Str × Str) := kMeth0 ++ kMeth1
def kNoat0 : List (Str × Str) := [("Checker", "function"), ("Checker", "sizes"), ("Checker", "box_names"), ("Program", "heads"), ("Program", "bodies"), ("Program", "rows"), ("Program", "tables"), ("Program", "listed"), ("Row", "text"), ("Row", "at"), ("Row", "has_failed"), ("Reader", "lines"), ("Reader", "line_at")]
def kNoat : List (Str × Str) := kNoat0
def shapes0 : List (Str × List Str) := [("pass", []), ("set", ["name", "expression"]), ("if", ["expression", "body", "body"]), ("loop", ["body"]), ("break", ["jump"]), ("continue", ["jump"]), ("call", ["name", "name", "args"]), ("return", ["expression"]), ("raise", ["expression"]), ("try", ["body", "name", "body"]), ("write", ["name", "expression"]), ("read", ["name", "name"]), ("send", ["name", "expression"]), ("receive", ["name", "name", "name"]), ("meet", ["name", "name", "name", "expression"]), ("fork", ["expression", "name", "args"])]
def shapes : List (Str × List Str) := shapes0

/-- a constant of the top that is a dict of tuples of texts: its values -/
def shpB (K : PySem.W.Frag) : Bool := shapes.all fun q => match PySem.W.nsIn K (He.ga K "SHAPES") q.1 with
  | some (some (.ref t)) => (match K.lookup t with
    | some ⟨.type c, _, .seq its _, _⟩ => decide (c = "tuple") && (decide (its.size ≤ sizeLine) && He.relAll (q.2.map V.str) its.toList)
    | _ => false)
  | _ => false
/-- what the top has left -/
structure Top (K : PySem.W.Frag) (mg : Str → Option Value) (w : World) : Prop where
  glo : ∀ x ∈ kGlo, mg x = some (.ref (He.ga K x)) ∧ PySem.W.keepIn K (.ref (He.ga K x)) = true
  ref : ∀ x ∈ kRef, mg x = some (.ref (He.ga K x))
  free : ∀ x ∈ kFree, mg x = none
  int : ∀ q ∈ kInt, ∃ t, mg q.1 = some (.int q.2 t)
  str : ∀ q ∈ kStr, ∃ t, mg q.1 = some (.str q.2 t)
  tup : ∀ q ∈ kTup, ∀ H : Hp, SqT K H (He.ga K q.1) (q.2.map V.str)
  cls : ∀ C ∈ kCls, Cls K (He.ga K C) ∧ Mk K (He.ga K C) (He.ma K (He.ga K C) "__init__")
  noat : ∀ q ∈ kNoat, NoAttr K (He.ga K q.1) q.2
  meth : ∀ q ∈ kMeth, Meth K (He.ga K q.1) q.2 (He.ma K (He.ga K q.1) q.2)
  def_ : ∀ d ∈ fn, ∃ fd, FunD K d.name d.qual d.params d.body d.scope (d.dvs K) (d.kws K) (He.fAd K d.at_) fd
  shp : ∃ es n, KDict K w (He.ga K "SHAPES") es n
  shpV : ∀ q ∈ shapes, ∃ t, PySem.W.nsIn K (He.ga K "SHAPES") q.1 = some (some (.ref t)) ∧ ∀ H : Hp, SqT K H t (q.2.map V.str)
/-! ### the slots -/
theorem sc_is_integer : FnScope ["value"] ["value"] (defScope s_is_integer) := ⟨rfl, rfl, rfl, by decide +kernel, rfl, by decide +kernel, by decide +kernel⟩
theorem sc_is_value : FnScope ["value"] ["value"] (defScope s_is_value) := ⟨rfl, rfl, rfl, by decide +kernel, rfl, by decide +kernel, by decide +kernel⟩
theorem sc_is_name : FnScope ["value", "letter"] ["value"] (defScope s_is_name) := ⟨rfl, rfl, rfl, by decide +kernel, rfl, by decide +kernel, by decide +kernel⟩
theorem sc_is_nested : FnScope ["value", "levels"] ["value", "levels"] (defScope s_is_nested) := ⟨rfl, rfl, rfl, by decide +kernel, rfl, by decide +kernel, by decide +kernel⟩
theorem sc_is_expression : FnScope ["value"] ["value"] (defScope s_is_expression) := ⟨rfl, rfl, rfl, by decide +kernel, rfl, by decide +kernel, by decide +kernel⟩
theorem sc_is_part : FnScope ["kind", "value", "e"] ["kind", "value"] (defScope s_is_part) := ⟨rfl, rfl, rfl, by decide +kernel, rfl, by decide +kernel, by decide +kernel⟩
theorem sc_is_statement : FnScope ["value", "shape", "kind", "part"] ["value"] (defScope s_is_statement) := ⟨rfl, rfl, rfl, by decide +kernel, rfl, by decide +kernel, by decide +kernel⟩
theorem sc_is_body : FnScope ["value"] ["value"] (defScope s_is_body) := ⟨rfl, rfl, rfl, by decide +kernel, rfl, by decide +kernel, by decide +kernel⟩
theorem sc_bodies_of : FnScope ["statement", "kind", "part"] ["statement"] (defScope s_bodies_of) := ⟨rfl, rfl, rfl, by decide +kernel, rfl, by decide +kernel, by decide +kernel⟩
theorem sc_statements_in : FnScope ["body", "found", "position", "statement", "number", "inner", "path", "each"] ["body"] (defScope s_statements_in) := ⟨rfl, rfl, rfl, by decide +kernel, rfl, by decide +kernel, by decide +kernel⟩
theorem sc_check_box : FnScope ["boxes", "position", "box", "each"] ["boxes", "position"] (defScope s_check_box) := ⟨rfl, rfl, rfl, by decide +kernel, rfl, by decide +kernel, by decide +kernel⟩
theorem sc_check_parameters : FnScope ["function", "parameters", "parameter"] ["function", "parameters"] (defScope s_check_parameters) := ⟨rfl, rfl, rfl, by decide +kernel, rfl, by decide +kernel, by decide +kernel⟩
theorem sc_check_definition : FnScope ["function", "definition"] ["function", "definition"] (defScope s_check_definition) := ⟨rfl, rfl, rfl, by decide +kernel, rfl, by decide +kernel, by decide +kernel⟩
theorem sc_check_tables : FnScope ["functions", "boxes", "position", "function", "definition"] ["functions", "boxes"] (defScope s_check_tables) := ⟨rfl, rfl, rfl, by decide +kernel, rfl, by decide +kernel, by decide +kernel⟩
theorem sc_Checker___init__ : FnScope ["self", "function", "sizes", "box_names"] ["self", "function", "sizes", "box_names"] (defScope s_Checker___init__) := ⟨rfl, rfl, rfl, by decide +kernel, rfl, by decide +kernel, by decide +kernel⟩
theorem sc_Checker_check_body : FnScope ["self", "body", "path", "depth", "loops", "position", "statement", "here", "inside", "number", "inner"] ["self", "body", "path", "depth", "loops"] (defScope s_Checker_check_body) := ⟨rfl, rfl, rfl, by decide +kernel, rfl, by decide +kernel, by decide +kernel⟩
theorem sc_Checker_check_form : FnScope ["self", "statement", "path", "depth", "bodies", "body"] ["self", "statement", "path", "depth"] (defScope s_Checker_check_form) := ⟨rfl, rfl, rfl, by decide +kernel, rfl, by decide +kernel, by decide +kernel⟩
theorem sc_Checker_check_uses : FnScope ["self", "statement", "path", "loops", "word", "given", "box"] ["self", "statement", "path", "loops"] (defScope s_Checker_check_uses) := ⟨rfl, rfl, rfl, by decide +kernel, rfl, by decide +kernel, by decide +kernel⟩
theorem sc_Program___init__ : FnScope ["self", "functions", "boxes", "sizes", "function", "body", "definition", "box", "parameters", "pair"] ["self", "functions", "boxes"] (defScope s_Program___init__) := ⟨rfl, rfl, rfl, by decide +kernel, rfl, by decide +kernel, by decide +kernel⟩
theorem sc_Program_functions : FnScope ["self"] ["self"] (defScope s_Program_functions) := ⟨rfl, rfl, rfl, by decide +kernel, rfl, by decide +kernel, by decide +kernel⟩
theorem sc_Program_check_function : FnScope ["self", "function"] ["self", "function"] (defScope s_Program_check_function) := ⟨rfl, rfl, rfl, by decide +kernel, rfl, by decide +kernel, by decide +kernel⟩
theorem sc_Program_parameters : FnScope ["self", "function"] ["self", "function"] (defScope s_Program_parameters) := ⟨rfl, rfl, rfl, by decide +kernel, rfl, by decide +kernel, by decide +kernel⟩
theorem sc_Program_body : FnScope ["self", "function"] ["self", "function"] (defScope s_Program_body) := ⟨rfl, rfl, rfl, by decide +kernel, rfl, by decide +kernel, by decide +kernel⟩
theorem sc_Program_boxes : FnScope ["self"] ["self"] (defScope s_Program_boxes) := ⟨rfl, rfl, rfl, by decide +kernel, rfl, by decide +kernel, by decide +kernel⟩
theorem sc_Program___eq__ : FnScope ["self", "other"] ["self", "other"] (defScope s_Program___eq__) := ⟨rfl, rfl, rfl, by decide +kernel, rfl, by decide +kernel, by decide +kernel⟩
theorem sc_Program___len__ : FnScope ["self"] ["self"] (defScope s_Program___len__) := ⟨rfl, rfl, rfl, by decide +kernel, rfl, by decide +kernel, by decide +kernel⟩
theorem sc_expression_text : FnScope ["expression", "operator", "left", "right"] ["expression"] (defScope s_expression_text) := ⟨rfl, rfl, rfl, by decide +kernel, rfl, by decide +kernel, by decide +kernel⟩
theorem sc_statement_words : FnScope ["statement", "found", "kind", "part", "each"] ["statement"] (defScope s_statement_words) := ⟨rfl, rfl, rfl, by decide +kernel, rfl, by decide +kernel, by decide +kernel⟩
theorem sc_middle_words : FnScope ["statement"] ["statement"] (defScope s_middle_words) := ⟨rfl, rfl, rfl, by decide +kernel, rfl, by decide +kernel, by decide +kernel⟩
theorem sc_body_lines : FnScope ["body", "depth", "found", "statement", "number", "inner"] ["body", "depth"] (defScope s_body_lines) := ⟨rfl, rfl, rfl, by decide +kernel, rfl, by decide +kernel, by decide +kernel⟩
theorem sc_format_program : FnScope ["program", "lines", "function", "box", "rule", "first", "line"] ["program"] (defScope s_format_program) := ⟨rfl, rfl, rfl, by decide +kernel, rfl, by decide +kernel, by decide +kernel⟩
theorem sc_number_in : FnScope ["word", "digits", "sign"] ["word"] (defScope s_number_in) := ⟨rfl, rfl, rfl, by decide +kernel, rfl, by decide +kernel, by decide +kernel⟩
theorem sc_Row___init__ : FnScope ["self", "text"] ["self", "text"] (defScope s_Row___init__) := ⟨rfl, rfl, rfl, by decide +kernel, rfl, by decide +kernel, by decide +kernel⟩
theorem sc_Row_skip : FnScope ["self", "sign"] ["self", "sign"] (defScope s_Row_skip) := ⟨rfl, rfl, rfl, by decide +kernel, rfl, by decide +kernel, by decide +kernel⟩
theorem sc_Row_next_word : FnScope ["self", "start"] ["self"] (defScope s_Row_next_word) := ⟨rfl, rfl, rfl, by decide +kernel, rfl, by decide +kernel, by decide +kernel⟩
theorem sc_Row_next_name : FnScope ["self", "word"] ["self"] (defScope s_Row_next_name) := ⟨rfl, rfl, rfl, by decide +kernel, rfl, by decide +kernel, by decide +kernel⟩
theorem sc_Row_next_number : FnScope ["self", "found"] ["self"] (defScope s_Row_next_number) := ⟨rfl, rfl, rfl, by decide +kernel, rfl, by decide +kernel, by decide +kernel⟩
theorem sc_Row_next_expression : FnScope ["self", "nested", "word", "found", "operator", "parts"] ["self", "nested"] (defScope s_Row_next_expression) := ⟨rfl, rfl, rfl, by decide +kernel, rfl, by decide +kernel, by decide +kernel⟩
theorem sc_Row_next_part : FnScope ["self", "kind"] ["self", "kind"] (defScope s_Row_next_part) := ⟨rfl, rfl, rfl, by decide +kernel, rfl, by decide +kernel, by decide +kernel⟩
theorem sc_Row_next_arguments : FnScope ["self", "found"] ["self"] (defScope s_Row_next_arguments) := ⟨rfl, rfl, rfl, by decide +kernel, rfl, by decide +kernel, by decide +kernel⟩
theorem sc_Row_is_read : FnScope ["self"] ["self"] (defScope s_Row_is_read) := ⟨rfl, rfl, rfl, by decide +kernel, rfl, by decide +kernel, by decide +kernel⟩
theorem sc_Reader___init__ : FnScope ["self", "lines"] ["self", "lines"] (defScope s_Reader___init__) := ⟨rfl, rfl, rfl, by decide +kernel, rfl, by decide +kernel, by decide +kernel⟩
theorem sc_Reader_next_line : FnScope ["self", "line", "words"] ["self"] (defScope s_Reader_next_line) := ⟨rfl, rfl, rfl, by decide +kernel, rfl, by decide +kernel, by decide +kernel⟩
theorem sc_Reader_is_next : FnScope ["self", "depth", "word", "spaces", "words"] ["self", "depth", "word"] (defScope s_Reader_is_next) := ⟨rfl, rfl, rfl, by decide +kernel, rfl, by decide +kernel, by decide +kernel⟩
theorem sc_Reader_row_behind : FnScope ["self", "word"] ["self", "word"] (defScope s_Reader_row_behind) := ⟨rfl, rfl, rfl, by decide +kernel, rfl, by decide +kernel, by decide +kernel⟩
theorem sc_Reader_end_row : FnScope ["self", "row"] ["self", "row"] (defScope s_Reader_end_row) := ⟨rfl, rfl, rfl, by decide +kernel, rfl, by decide +kernel, by decide +kernel⟩
theorem sc_Reader_boxes : FnScope ["self", "found", "row", "name", "rule"] ["self"] (defScope s_Reader_boxes) := ⟨rfl, rfl, rfl, by decide +kernel, rfl, by decide +kernel, by decide +kernel⟩
theorem sc_Reader_functions : FnScope ["self", "found", "row", "name", "heads", "head"] ["self"] (defScope s_Reader_functions) := ⟨rfl, rfl, rfl, by decide +kernel, rfl, by decide +kernel, by decide +kernel⟩
theorem sc_Reader_body : FnScope ["self", "depth", "found"] ["self", "depth"] (defScope s_Reader_body) := ⟨rfl, rfl, rfl, by decide +kernel, rfl, by decide +kernel, by decide +kernel⟩
theorem sc_Reader_statement : FnScope ["self", "depth", "spaces", "words", "word", "row", "parts", "kinds", "kind"] ["self", "depth"] (defScope s_Reader_statement) := ⟨rfl, rfl, rfl, by decide +kernel, rfl, by decide +kernel, by decide +kernel⟩
theorem sc_Reader_middle : FnScope ["self", "depth", "word", "row", "found"] ["self", "depth", "word"] (defScope s_Reader_middle) := ⟨rfl, rfl, rfl, by decide +kernel, rfl, by decide +kernel, by decide +kernel⟩
theorem sc_parse_program : FnScope ["text", "lines", "rest", "reader", "boxes", "functions"] ["text"] (defScope s_parse_program) := ⟨rfl, rfl, rfl, by decide +kernel, rfl, by decide +kernel, by decide +kernel⟩
theorem sc__law_source : FnScope ["_law_script", "_law_place", "_law_cell"] ["_law_script", "_law_place"] (defScope s__law_source) := ⟨rfl, rfl, rfl, by decide +kernel, rfl, by decide +kernel, by decide +kernel⟩
theorem sc__law_draw : FnScope ["_law_source_here", "_law_many", "_law_digit"] ["_law_source_here", "_law_many"] (defScope s__law_draw) := ⟨rfl, rfl, rfl, by decide +kernel, rfl, by decide +kernel, by decide +kernel⟩
theorem sc__law_choose : FnScope ["_law_source_here", "_law_items"] ["_law_source_here", "_law_items"] (defScope s__law_choose) := ⟨rfl, rfl, rfl, by decide +kernel, rfl, by decide +kernel, by decide +kernel⟩
theorem sc__law_shuffled : FnScope ["_law_source_here", "_law_items", "_law_pool", "_law_turn"] ["_law_source_here", "_law_items"] (defScope s__law_shuffled) := ⟨rfl, rfl, rfl, by decide +kernel, rfl, by decide +kernel, by decide +kernel⟩
theorem sc__law_new_word : FnScope ["_law_source_here", "_law_used", "_law_letters", "_law_word", "_law_turn", "_law_letter"] ["_law_source_here", "_law_used"] (defScope s__law_new_word) := ⟨rfl, rfl, rfl, by decide +kernel, rfl, by decide +kernel, by decide +kernel⟩
theorem sc__law_new_words : FnScope ["_law_source_here", "_law_many", "_law_used", "_law_found", "_law_turn"] ["_law_source_here", "_law_many", "_law_used"] (defScope s__law_new_words) := ⟨rfl, rfl, rfl, by decide +kernel, rfl, by decide +kernel, by decide +kernel⟩
theorem sc__law_value : FnScope ["_law_source_here", "_law_way", "_law_size"] ["_law_source_here"] (defScope s__law_value) := ⟨rfl, rfl, rfl, by decide +kernel, rfl, by decide +kernel, by decide +kernel⟩
theorem sc__law_expression : FnScope ["_law_source_here", "_law_names", "_law_levels", "_law_way", "_law_word", "_law_left"] ["_law_source_here", "_law_names", "_law_levels"] (defScope s__law_expression) := ⟨rfl, rfl, rfl, by decide +kernel, rfl, by decide +kernel, by decide +kernel⟩
theorem sc__law_tail : FnScope ["_law_source_here", "_law_world_here", "_law_word", "_law_names", "_law_first", "_law_term", "_law_crates", "_law_crate"] ["_law_source_here", "_law_world_here", "_law_word"] (defScope s__law_tail) := ⟨rfl, rfl, rfl, by decide +kernel, rfl, by decide +kernel, by decide +kernel⟩
theorem sc__law_entered : FnScope ["_law_source_here", "_law_world_here", "_law_word", "_law_some", "_law_goal", "_law_many", "_law_terms", "_law_turn"] ["_law_source_here", "_law_world_here", "_law_word"] (defScope s__law_entered) := ⟨rfl, rfl, rfl, by decide +kernel, rfl, by decide +kernel, by decide +kernel⟩
theorem sc__law_nested : FnScope ["_law_source_here", "_law_world_here", "_law_depth", "_law_loops", "_law_word", "_law_inner"] ["_law_source_here", "_law_world_here", "_law_depth", "_law_loops"] (defScope s__law_nested) := ⟨rfl, rfl, rfl, by decide +kernel, rfl, by decide +kernel, by decide +kernel⟩
theorem sc__law_statement : FnScope ["_law_source_here", "_law_world_here", "_law_depth", "_law_loops", "_law_way", "_law_words"] ["_law_source_here", "_law_world_here", "_law_depth", "_law_loops"] (defScope s__law_statement) := ⟨rfl, rfl, rfl, by decide +kernel, rfl, by decide +kernel, by decide +kernel⟩
theorem sc__law_body : FnScope ["_law_source_here", "_law_world_here", "_law_depth", "_law_loops", "_law_many", "_law_turn"] ["_law_source_here", "_law_world_here", "_law_depth", "_law_loops"] (defScope s__law_body) := ⟨rfl, rfl, rfl, by decide +kernel, rfl, by decide +kernel, by decide +kernel⟩
theorem sc__law_world : FnScope ["_law_source_here", "_law_left", "_law_words", "_law_crates", "_law_world_here", "_law_goal"] ["_law_source_here", "_law_left"] (defScope s__law_world) := ⟨rfl, rfl, rfl, by decide +kernel, rfl, by decide +kernel, by decide +kernel⟩
theorem sc__law_definitions : FnScope ["_law_source_here", "_law_world_here", "_law_found", "_law_goal", "_law_heads"] ["_law_source_here", "_law_world_here"] (defScope s__law_definitions) := ⟨rfl, rfl, rfl, by decide +kernel, rfl, by decide +kernel, by decide +kernel⟩
theorem sc__law_box_rows : FnScope ["_law_source_here", "_law_world_here", "_law_rules", "_law_word"] ["_law_source_here", "_law_world_here"] (defScope s__law_box_rows) := ⟨rfl, rfl, rfl, by decide +kernel, rfl, by decide +kernel, by decide +kernel⟩
theorem sc__law_term_text : FnScope ["_law_term"] ["_law_term"] (defScope s__law_term_text) := ⟨rfl, rfl, rfl, by decide +kernel, rfl, by decide +kernel, by decide +kernel⟩
theorem sc__law_line : FnScope ["_law_statement_here", "_law_word", "_law_parts", "_law_term", "_law_part"] ["_law_statement_here"] (defScope s__law_line) := ⟨rfl, rfl, rfl, by decide +kernel, rfl, by decide +kernel, by decide +kernel⟩
theorem sc__law_rows : FnScope ["_law_body_here", "_law_margin", "_law_found", "_law_statement_here"] ["_law_body_here", "_law_margin"] (defScope s__law_rows) := ⟨rfl, rfl, rfl, by decide +kernel, rfl, by decide +kernel, by decide +kernel⟩
theorem sc__law_written : FnScope ["_law_table", "_law_rows_here", "_law_lines", "_law_goal", "_law_row", "_law_line_here"] ["_law_table", "_law_rows_here"] (defScope s__law_written) := ⟨rfl, rfl, rfl, by decide +kernel, rfl, by decide +kernel, by decide +kernel⟩
theorem sc__law_text_right : FnScope ["_law_table", "_law_rows_here", "_law_made", "_law_due", "_law_told", "_law_goal"] ["_law_table", "_law_rows_here"] (defScope s__law_text_right) := ⟨rfl, rfl, rfl, by decide +kernel, rfl, by decide +kernel, by decide +kernel⟩
theorem sc__law_long_right : FnScope ["_law_source_here", "_law_words", "_law_table", "_law_goal", "_law_body_here", "_law_rows_here", "_law_turn", "_law_word"] ["_law_source_here"] (defScope s__law_long_right) := ⟨rfl, rfl, rfl, by decide +kernel, rfl, by decide +kernel, by decide +kernel⟩
theorem sc__law_cell_holds : FnScope ["_law_source_here", "_law_turn", "_law_world_here", "_law_table", "_law_rows_here", "_law_others", "_law_goal"] ["_law_source_here"] (defScope s__law_cell_holds) := ⟨rfl, rfl, rfl, by decide +kernel, rfl, by decide +kernel, by decide +kernel⟩
theorem sc_law : FnScope ["_law_script", "_law_place"] ["_law_script"] (defScope s_law) := ⟨rfl, rfl, rfl, by decide +kernel, rfl, by decide +kernel, by decide +kernel⟩
end K91
set_option Elab.async false
set_option linter.all false
set_option maxRecDepth 100000
set_option maxHeartbeats 4000000
/-! Short words over the hand layer for this text. -/
namespace K91
open PySem PySem.Spec PyProof.Rows L2
section
variable {P : Program} {w : World} {K : PySem.W.Frag} {mg : Str → Option Value} {base : Heap}
/-- a def of the text by positional values -/
theorem mkR {x qual : Str} {params : Arguments} {body : List Stmt} {scope : Scope} {f : Addr} {fd : FuncData} {N ps : List Str} {k : Nat} {sp : Sp} (F : FunD K x qual params body scope [] [] f fd) (S : FnScope N ps scope)
    (bd : ∀ (kV doc pm : Value) (an : Option Addr) (cdv ct : Value) (us : List Value), us.length = ps.length → bindArgs (PySem.W.fnOf x qual params body scope .none kV doc pm an cdv ct) ⟨us, []⟩ = pure (ps.zip us))
    (len : ∀ vs H Q E, sp vs H Q E → vs.length = ps.length)
    (hbody : ∀ (cdv : Value) (A : Around) (outer : List Env) (s : Shared) (H : Hp) (vs : List V) (Q : VK) (E : XK), Room k (A.deeper (envOfC qual scope s.heap.objs.size f cdv)) → sp vs H Q E →
      ∃ t, PSs (cxOf CX0 P w K mg base N qual scope f cdv A outer s H E).nox body t ∧ t { nx := fun _ H' => Q .non H', rt := Q } (start N vs) H) : FnR P w K mg base CX0 (k + 1) f sp := by
  have G : FnOk P w K mg base CX0 (k + 1) f fd ps sp := F.ok S len fun cdv A outer s H vs Q E hr h => by
    obtain ⟨t, h1, h2⟩ := hbody cdv A outer s H vs Q E hr h
    exact ⟨t, h1.nox, h2⟩
  have R := G.raw (F.bindsN bd) (dvs := []) .nil
  exact R.imp fun vs H Q E h => by rw [List.append_nil]; exact h
end
section
variable {X : Cx}
theorem pe_gint {x : Str} {i : Int} {pos : Pos} (h : ∃ t, X.mg x = some (.int i t)) (hg : Gl X x := by rfl) (hd : (x == ("__debug__" : Str)) = false := by decide) : PE X (.Name x pos) (tC (.int i)) := by
  obtain ⟨t, e⟩ := h
  exact pe_glob hg e ⟨_, rfl⟩ hd
theorem pe_gstr {x z : Str} {pos : Pos} (h : ∃ t, X.mg x = some (.str z t)) (hg : Gl X x := by rfl) (hd : (x == ("__debug__" : Str)) = false := by decide) : PE X (.Name x pos) (tC (.str z)) := by
  obtain ⟨t, e⟩ := h
  exact pe_glob hg e ⟨_, rfl⟩ hd
theorem pe_gref {x : Str} {a : Addr} {pos : Pos} (h : X.mg x = some (.ref a)) (hg : Gl X x := by rfl) (hd : (x == ("__debug__" : Str)) = false := by decide) : PE X (.Name x pos) (tC (.ref a)) := pe_glob hg h rfl hd
def tCallR (sp : Sp) (t : TA) : TE := fun σ H Q => t σ H fun vs H1 => sp vs H1 Q E0
theorem pcall {k k' : Nat} {f : Addr} {sp : Sp} {x : Str} {p pos : Pos} {e : Expr} {es : List Expr} {t : TA} (F : FnR X.prog X.w X.K X.mg X.base CX0 k f sp) (hr : Room k' X.A) (g : X.mg x = some (.ref f) ∧ PySem.W.keepIn X.K (.ref f) = true)
    (ha : PA X (e :: es) t) (hk : k ≤ k' := by omega) (hg : Gl X x := by rfl) (hd : (x == ("__debug__" : Str)) = false := by decide) (he : starEach (e :: es) X.env = (false, eval e X.env) :: starEach es X.env := by rfl) (hpl : (backTo pos (starEach es X.env)).any (·.1) = false := by rfl) :
    PE X (.Call (.Name x p) (e :: es) [] pos) (tCallR sp t) := by
  refine ⟨fun pins s σ H Q I h => ?_⟩
  refine wpAny_Call_Name_kw (ld_glob I hg g.1 ?_ hd)
  refine PySem.W.callWith_K (h₀ := X.base) I.ok.mod.kin g.2 (thn (ha.run pos pins s σ H _ I h) fun us s1 ⟨vs, H1, I1, r, q⟩ => ⟨I1.kIn, ?_⟩) he hpl
  exact wpAny_call (run_fnR F (hr.mono hk) pass0 I1 r q)
def tMethO (C : Addr) (m : Str) (sp : Sp) (ta : TE) : TE := fun σ H Q => ta σ H fun x H1 => ∃ a dx fs, x = .ref a ∧ H1 a = some (.ins C dx fs) ∧ fs.lookup m = none ∧ sp [x] H1 Q E0
theorem pmeth0' {k k' : Nat} {C f : Addr} {m : Str} {sp : Sp} {o : Expr} {ta : TE} {apos pos : Pos} {pl : Sem Bool} (c : Cls X.K C) (hm : Meth X.K C m f)
    (F : FnR X.prog X.w X.K X.mg X.base CX0 k f sp) (hr : Room k' X.A) (he : PE X o ta) (hk : k ≤ k' := by omega)
    (ht : eval (.Call (.Attribute o m apos) [] [] pos) X.env = (do
      let ov ← eval o X.env
      standAt apos.atName
      let (f, first) ← holding [ov] (getMethod ov m pl)
      callWith pos f first (backTo pos (starEach [] X.env)) (backToKw pos (keywordEach [] X.env))) := by rfl) :
    PE X (.Call (.Attribute o m apos) [] [] pos) (tMethO C m sp ta) := by
  refine ⟨fun pins s σ H Q I h => ?_⟩
  refine PySem.W.methodCall_KW (pl := pl) (thn (he.run pins s σ H _ I h) fun u s1 ⟨x, H1, I1, rx, a, dx, fs, ex, ea, l, q⟩ => ?_) ht
  subst ex
  obtain rfl : u = Value.ref a := rx
  refine getmeth_ok I1 ea c hm l ?_
  exact PySem.W.callWith_K0 (first := [.ref a]) I1.kIn hm.kp (wpAny_call (run_fnR (us := [.ref a]) (vs := [.ref a]) F (hr.mono hk) pass0 I1 (.cons rfl .nil) q))
end
/-! ### data -/
def tyD : PyData → String
  | .none => "NoneType"
  | .bool _ => "bool"
  | .int _ => "int"
  | .str _ => "str"
  | .list _ => "list"
  | .tuple _ => "tuple"
  | .dict _ => "dict"
theorem tyX_of {K : PySem.W.Frag} {H : Hp} {v : V} {d : PyData} (h : Dp K H v d) : TyX K H v (.type (tyD d)) := by
  cases h with
  | non => exact .base .non
  | bl b => exact .base (.bl b)
  | int i => exact .base (.int i)
  | str x => exact .base (.str x)
  | lst h _ =>
    rcases h with (h | ⟨o, h⟩) | ⟨o, _, _, l, c, _⟩
    · exact .base (.lst h)
    · exact .base (.frz h)
    · exact .kList l c
  | tup h _ =>
    rcases h with (h | ⟨o, h⟩) | ⟨o, _, _, l, c, _⟩
    · exact .base (.tup h)
    · exact .fTuple h
    · exact .kTuple l c
/-- isinstance(x, T) of data, T a built-in class -/
def isiB (a b : String) : Bool := (kitB a b).getD false
theorem isi_of {K : PySem.W.Frag} {a b : String} (h : (kitB a b).isSome = true) : PySem.W.kitOne K (.type a) (.type b) = some (isiB a b) := by
  unfold isiB
  cases e : kitB a b with
  | none => rw [e] at h; cases h
  | some r => exact kit_ty e
theorem kit_tab : ∀ a ∈ ["NoneType", "bool", "int", "str", "list", "tuple", "dict"], ∀ b ∈ ["int", "bool", "str", "tuple", "list", "dict"], (kitB a b).isSome = true := by decide +kernel
theorem tyD_mem (d : PyData) : tyD d ∈ ["NoneType", "bool", "int", "str", "list", "tuple", "dict"] := by cases d <;> simp [tyD]
theorem kit_all (d : PyData) {b : String} (h : b ∈ ["int", "bool", "str", "tuple", "list", "dict"]) : (kitB (tyD d) b).isSome = true := kit_tab _ (tyD_mem d) _ h
theorem isi_tab : (∀ a ∈ ["NoneType", "bool", "int", "str", "list", "tuple", "dict"], isiB a "int" = (a == "int" || a == "bool")) ∧ (∀ b ∈ ["bool", "str", "tuple", "list", "dict"], ∀ a ∈ ["NoneType", "bool", "int", "str", "list", "tuple", "dict"], isiB a b = (a == b)) := by decide +kernel
theorem isi_int (d : PyData) : isiB (tyD d) "int" = (tyD d == "int" || tyD d == "bool") := isi_tab.1 _ (tyD_mem d)
theorem isi_eq (d : PyData) {b : String} (h : b ∈ ["bool", "str", "tuple", "list", "dict"]) : isiB (tyD d) b = (tyD d == b) := isi_tab.2 _ h _ (tyD_mem d)
theorem kit_int (d : PyData) : (kitB (tyD d) "int").isSome = true := kit_all d (by simp)
theorem kit_bool (d : PyData) : (kitB (tyD d) "bool").isSome = true := kit_all d (by simp)
theorem kit_str (d : PyData) : (kitB (tyD d) "str").isSome = true := kit_all d (by simp)
theorem kit_tuple (d : PyData) : (kitB (tyD d) "tuple").isSome = true := kit_all d (by simp)
theorem kit_list (d : PyData) : (kitB (tyD d) "list").isSome = true := kit_all d (by simp)
theorem kit_dict (d : PyData) : (kitB (tyD d) "dict").isSome = true := kit_all d (by simp)
theorem isi_boolE (d : PyData) : isiB (tyD d) "bool" = (tyD d == "bool") := isi_eq d (by simp)
theorem isi_strE (d : PyData) : isiB (tyD d) "str" = (tyD d == "str") := isi_eq d (by simp)
theorem isi_tupleE (d : PyData) : isiB (tyD d) "tuple" = (tyD d == "tuple") := isi_eq d (by simp)
theorem isi_listE (d : PyData) : isiB (tyD d) "list" = (tyD d == "list") := isi_eq d (by simp)
theorem isi_dictE (d : PyData) : isiB (tyD d) "dict" = (tyD d == "dict") := isi_eq d (by simp)
theorem iteFb {b : Bool} {A B : Prop} (hb : b = false) (h : B) : if b = true then A else B := by rw [hb, if_neg Bool.false_ne_true]; exact h
theorem iteTb {b : Bool} {A B : Prop} (hb : b = true) (h : A) : if b = true then A else B := by rw [hb, if_pos rfl]; exact h
theorem isi_str (x : Str) : isiB (tyD (.str x)) "str" = true := by rw [isi_eq _ (by simp)]; rfl
theorem cls_ty (n : String) : ClsV (.ty n) (.type n) := .ty n
/-- what a call of isinstance(v, T) of data asks -/
theorem isi_ask {K : PySem.W.Frag} {H : Hp} {v : V} {d : PyData} {T : String} {Q : VK} (h : Dp K H v d) (hT : (kitB (tyD d) T).isSome = true) (q : Q (.bl (isiB (tyD d) T)) H) : rIsi K [v, .ty T] H Q :=
  ⟨v, .ty T, _, _, _, rfl, .ty T, tyX_of h, isi_of hT, q⟩
theorem dpa_len {K : PySem.W.Frag} {H : Hp} : ∀ {vs : List V} {ds : List PyData}, DpAll K H vs ds → vs.length = ds.length
  | _, _, .nil => rfl
  | _, _, .cons _ t => congrArg Nat.succ (dpa_len t)
theorem dpa_get {K : PySem.W.Frag} {H : Hp} : ∀ {vs : List V} {ds : List PyData} {i : Nat} {d : PyData}, DpAll K H vs ds → ds[i]? = some d → ∃ v, vs[i]? = some v ∧ Dp K H v d
  | _, _, 0, _, .cons h _, e => by cases e; exact ⟨_, rfl, h⟩
  | _, _, i + 1, _, .cons _ t, e => by
    obtain ⟨v, e1, e2⟩ := dpa_get (i := i) t (by simpa using e)
    exact ⟨v, by simpa using e1, e2⟩
theorem sq {t u : TS} {D : Ends} {σ : L2.St} {H : Hp} (h : t { D with nx := u D } σ H) : tSeq t u D σ H := h
theorem cxK {CX : CXT} {P : Program} {w : World} {K : PySem.W.Frag} {mg : Str → Option Value} {base : Heap} {N : List Str} {qual : Str} {scope : Scope} {f : Addr} {cd : Value} {A : Around} {outer : List Env} {s : Shared} {H : Hp} {E : XK} : (cxOf CX P w K mg base N qual scope f cd A outer s H E).nox.K = K := rfl
theorem cxw {CX : CXT} {P : Program} {w : World} {K : PySem.W.Frag} {mg : Str → Option Value} {base : Heap} {N : List Str} {qual : Str} {scope : Scope} {f : Addr} {cd : Value} {A : Around} {outer : List Env} {s : Shared} {H : Hp} {E : XK} : (cxOf CX P w K mg base N qual scope f cd A outer s H E).nox.w = w := rfl
theorem start1 (N : List Str) (a : V) : L2.start N [a] = some a :: List.replicate (N.length - 1) none := rfl
theorem start2 (N : List Str) (a b : V) : L2.start N [a, b] = some a :: some b :: List.replicate (N.length - 2) none := rfl
theorem start3 (N : List Str) (a b c : V) : L2.start N [a, b, c] = some a :: some b :: some c :: List.replicate (N.length - 3) none := rfl
theorem start4 (N : List Str) (a b c d : V) : L2.start N [a, b, c, d] = some a :: some b :: some c :: some d :: List.replicate (N.length - 4) none := rfl
theorem start5 (N : List Str) (a b c d e : V) : L2.start N [a, b, c, d, e] = some a :: some b :: some c :: some d :: some e :: List.replicate (N.length - 5) none := rfl
theorem cxK' {CX : CXT} {P : Program} {w : World} {K : PySem.W.Frag} {mg : Str → Option Value} {base : Heap} {N : List Str} {qual : Str} {scope : Scope} {f : Addr} {cd : Value} {A : Around} {outer : List Env} {s : Shared} {H : Hp} {E : XK} : (cxOf CX P w K mg base N qual scope f cd A outer s H E).K = K := rfl
theorem cxw' {CX : CXT} {P : Program} {w : World} {K : PySem.W.Frag} {mg : Str → Option Value} {base : Heap} {N : List Str} {qual : Str} {scope : Scope} {f : Addr} {cd : Value} {A : Around} {outer : List Env} {s : Shared} {H : Hp} {E : XK} : (cxOf CX P w K mg base N qual scope f cd A outer s H E).w = w := rfl
/-- heaps: every tuple stays -/
def Tups (H H' : Hp) : Prop := ∀ b xs, Rd H b (.tup xs) → Rd H' b (.tup xs)
theorem Tups.refl (H : Hp) : Tups H H := fun _ _ h => h
theorem Tups.trans {H H1 H2 : Hp} (a : Tups H H1) (b : Tups H1 H2) : Tups H H2 := fun c xs h => b c xs (a c xs h)
theorem tups_of {H H' : Hp} (h : Same H H') : Tups H H' := fun b xs r => by
  rcases r with r | ⟨o, r⟩
  · exact .inl (h _ _ r)
  · exact .inr ⟨o, h _ _ r⟩
theorem line_big : 1000000 < sizeLine := by decide
theorem same_new {H : Hp} {p : Addr} (h : H p = none) (o : HO) : Same H (upd H p o) := fun b u q => by rw [upd_ne (ne_of_none q h)]; exact q
/-- a store to what is no tuple -/
theorem tups_put {H : Hp} {p : Addr} {u : HO} (o : HO) (h : H p = some u) (d : ∀ xs, u ≠ .tup xs) (d2 : ∀ ob xs, u ≠ .frz ob (.tup xs)) : Tups H (upd H p o) := fun b xs r => by
  have hb : b ≠ p := by
    rintro rfl
    rcases r with r | ⟨ob, r⟩
    · rw [h] at r; exact d _ (Option.some.inj r)
    · rw [h] at r; exact d2 _ _ (Option.some.inj r)
  rcases r with r | ⟨ob, r⟩
  · exact .inl (by rw [upd_ne hb]; exact r)
  · exact .inr ⟨ob, by rw [upd_ne hb]; exact r⟩
theorem Tups.sqT {K : PySem.W.Frag} {H H' : Hp} {a : Addr} {xs : List V} (t : Tups H H') (h : SqT K H a xs) : SqT K H' a xs := by
  rcases h with h | h
  · exact .inl (t _ _ h)
  · exact .inr h
/-! ### data of tuples -/
mutual
inductive Dt (K : PySem.W.Frag) (H : Hp) : V → PyData → Prop
  | non : Dt K H .non .none
  | bl (b : Bool) : Dt K H (.bl b) (.bool b)
  | int (i : Int) : Dt K H (.int i) (.int i)
  | str (x : Str) (h : x.length ≤ 100000) : Dt K H (.str x) (.str x)
  | tup {a : Addr} {xs : List V} {ds : List PyData} : SqT K H a xs → DtAll K H xs ds → Dt K H (.ref a) (.tuple ds)
inductive DtAll (K : PySem.W.Frag) (H : Hp) : List V → List PyData → Prop
  | nil : DtAll K H [] []
  | cons {v : V} {vs : List V} {d : PyData} {ds : List PyData} : Dt K H v d → DtAll K H vs ds → DtAll K H (v :: vs) (d :: ds)
end
section
variable {K : PySem.W.Frag} {H H' : Hp}
mutual
theorem Dt.dp : ∀ {v : V} {d : PyData}, Dt K H v d → Dp K H v d
  | _, _, .non => .non
  | _, _, .bl b => .bl b
  | _, _, .int i => .int i
  | _, _, .str x _ => .str x
  | _, _, .tup h t => .tup h (DtAll.dp t)
theorem DtAll.dp : ∀ {vs : List V} {ds : List PyData}, DtAll K H vs ds → DpAll K H vs ds
  | _, _, .nil => .nil
  | _, _, .cons h t => .cons (Dt.dp h) (DtAll.dp t)
end
mutual
theorem Dt.keep (t : Tups H H') : ∀ {v : V} {d : PyData}, Dt K H v d → Dt K H' v d
  | _, _, .non => .non
  | _, _, .bl b => .bl b
  | _, _, .int i => .int i
  | _, _, .str x h => .str x h
  | _, _, .tup h r => .tup (t.sqT h) (DtAll.keep t r)
theorem DtAll.keep (t : Tups H H') : ∀ {vs : List V} {ds : List PyData}, DtAll K H vs ds → DtAll K H' vs ds
  | _, _, .nil => .nil
  | _, _, .cons h r => .cons (Dt.keep t h) (DtAll.keep t r)
end
theorem dta_len : ∀ {vs : List V} {ds : List PyData}, DtAll K H vs ds → vs.length = ds.length
  | _, _, .nil => rfl
  | _, _, .cons _ t => congrArg Nat.succ (dta_len t)
theorem dta_get : ∀ {vs : List V} {ds : List PyData} {i : Nat} {d : PyData}, DtAll K H vs ds → ds[i]? = some d → ∃ v, vs[i]? = some v ∧ Dt K H v d
  | _, _, 0, _, .cons h _, e => by cases e; exact ⟨_, rfl, h⟩
  | _, _, i + 1, _, .cons _ t, e => by
    obtain ⟨v, e1, e2⟩ := dta_get (i := i) t (by simpa using e)
    exact ⟨v, by simpa using e1, e2⟩
theorem dta_of : ∀ {vs : List V} {ds : List PyData} {i : Nat} {v : V}, DtAll K H vs ds → vs[i]? = some v → ∃ d, ds[i]? = some d ∧ Dt K H v d
  | _, _, 0, _, .cons h _, e => by cases e; exact ⟨_, rfl, h⟩
  | _, _, i + 1, _, .cons _ t, e => by
    obtain ⟨v, e1, e2⟩ := dta_of (i := i) t (by simpa using e)
    exact ⟨v, by simpa using e1, e2⟩
theorem dta_app : ∀ {vs us : List V} {ds es : List PyData}, DtAll K H vs ds → DtAll K H us es → DtAll K H (vs ++ us) (ds ++ es)
  | _, _, _, _, .nil, h => h
  | _, _, _, _, .cons a t, h => .cons a (dta_app t h)
end
theorem ixT_at {K : PySem.W.Frag} {H : Hp} {a : Addr} {xs : List V} {v : V} {Q : VK} (j : Nat) (hT : SqT K H a xs) (h : xs[j]? = some v) (q : Q v H) : rIxT K (.ref a) (.int (j : Nat)) H Q := ⟨a, xs, _, v, rfl, rfl, hT, atI_nat h, q⟩
theorem ixL_at {K : PySem.W.Frag} {H : Hp} {a : Addr} {xs : List V} {v : V} {Q : VK} (j : Nat) (hT : SqL K H a xs) (h : xs[j]? = some v) (q : Q v H) : rIxL K (.ref a) (.int (j : Nat)) H Q := ⟨a, xs, _, v, rfl, rfl, hT, atI_nat h, q⟩
theorem in_strs (o : Str) : ∀ l : List Str, inV (V.str o) (l.map V.str) = l.contains o
  | [] => rfl
  | a :: r => by
    have ih := in_strs o r
    show (eqV (.str a) (.str o) || inV (V.str o) (r.map V.str)) = _
    rw [ih, List.contains_cons]
    congr 1
    show (a == o) = (o == a)
    exact BEq.comm
theorem walk_zipT {K : PySem.W.Frag} {a b : Addr} {xs ys : List V} {n : Nat} (hn : n = min xs.length ys.length) : Walk (RZ.ItzT K a b) n (fun H => SqT K H a xs ∧ SqT K H b ys) (YPair (fun i => xs[i]?) (fun i => ys[i]?)) := by
  subst hn
  refine ⟨fun i _ hi q => ?_, fun _ q => ⟨xs, ys, q.1, q.2, by omega⟩, fun i H v H' _ q y => ?_⟩
  · have h1 : i < xs.length := by omega
    have h2 : i < ys.length := by omega
    exact ⟨xs, ys, xs[i], ys[i], q.1, q.2, by simp [h1], by simp [h2]⟩
  · obtain ⟨T, x, z, h1, h2, h3, h4, h5⟩ := y
    exact ⟨T, x, z, h1, h2, h3, h4 xs q.1, h5 ys q.2⟩
/-- within a comprehension that leaves all that stood as it stood; R: what holds of the items so far -/
def LcP (H1 : Hp) (D : Addr) (R : Nat → List V → Hp → Prop) (i : Nat) (H : Hp) : Prop := ∃ acc, Same H1 H ∧ H D = some (.lst acc) ∧ acc.length ≤ i ∧ R i acc H
section
variable {H1 H H4 : Hp} {D : Addr} {R : Nat → List V → Hp → Prop} {i : Nat} {acc : List V} {y : V}
theorem LcP.start (nD : H1 D = none) (h0 : R 0 [] (upd H1 D (.lst []))) : LcP H1 D R 0 (upd H1 D (.lst [])) := ⟨[], same_new nD _, upd_same, Nat.le_refl _, h0⟩
theorem same_at {H1 H4 : Hp} {D : Addr} (nD : H1 D = none) (s : Same H1 H4) (o : HO) : Same H1 (upd H4 D o) := fun b u e => by
  have hb : b ≠ D := by rintro rfl; rw [nD] at e; cases e
  rw [upd_ne hb]
  exact s _ _ e
theorem LcP.step (nD : H1 D = none) (s : Same H1 H4) (l : acc.length ≤ i) (r : R (i + 1) (acc ++ [y]) (upd H4 D (.lst (acc ++ [y])))) : LcP H1 D R (i + 1) (upd H4 D (.lst (acc ++ [y]))) :=
  ⟨acc ++ [y], same_at nD s _, upd_same, by simp; omega, r⟩
theorem LcP.skip (s : Same H1 H4) (e : H4 D = some (.lst acc)) (l : acc.length ≤ i) (r : R (i + 1) acc H4) : LcP H1 D R (i + 1) H4 := ⟨acc, s, e, Nat.le_succ_of_le l, r⟩
end
theorem pss_cutK {X : Cx} {st : Stmt} {rest : List Stmt} {t u : TS} (h1 : PS X st t) (h2 : PSs X rest u) : PSs X (st :: rest) (C8.tCut t u) := C8.pss_cut h1 h2
theorem cutI {t u : TS} {D : Ends} {σ : L2.St} {H : Hp} (Mid : L2.St → Hp → Prop) (h1 : t { D with nx := Mid } σ H) (h2 : ∀ σ' H', Mid σ' H' → u D σ' H') : C8.tCut t u D σ H := ⟨Mid, h1, h2⟩
/-! ### fields -/
theorem fld_ask {K : PySem.W.Frag} {H : Hp} {a C dx : Addr} {f : Str} {fs : List (Str × V)} {v : V} {Q : VK} (h : H a = some (.ins C dx fs)) (c : Cls K C) (n : NoAttr K C f) (l : fs.lookup f = some v) (q : Q v H) : ∃ a' C' dx' fs' v', V.ref a = .ref a' ∧ H a' = some (.ins C' dx' fs') ∧ Cls K C' ∧ NoAttr K C' f ∧ fs'.lookup f = some v' ∧ Q v' H :=
  ⟨a, C, dx, fs, v, rfl, h, c, n, l, q⟩
theorem fldw {K : PySem.W.Frag} {H : Hp} {p C dx : Addr} {f : Str} {fs : List (Str × V)} {v : V} {R : V → Prop} (h : H p = some (.ins C dx fs)) (c : Cls K C) (n : NoAttr K C f) (l : fs.lookup f = some v) (q : R v) :
    ∃ x x_1 x_2, H p = some (.ins x x_1 x_2) ∧ Cls K x ∧ NoAttr K x f ∧ ∃ v, List.lookup f x_2 = some v ∧ R v := ⟨C, dx, fs, h, c, n, v, l, q⟩
theorem cat_ask {K : PySem.W.Frag} {H : Hp} {a b : Addr} {xs ys : List V} {Q : VK} (ha : SqT K H a xs) (hb : SqT K H b ys) (hz : xs.length + ys.length ≤ sizeLine) (q : ∀ r H', Same H H' → SqT K H' r (xs ++ ys) → Q (.ref r) H') : rCatA K (.ref a) (.ref b) H Q :=
  ⟨a, b, xs, ys, rfl, rfl, ha, hb, hz, fun e => q b H (.refl H) (by rw [e]; exact hb), fun _ e => q a H (.refl H) (by rw [e, List.append_nil]; exact ha), fun _ _ p np => q p _ (same_new np _) (.inl (.inl upd_same))⟩
theorem tyL {K : PySem.W.Frag} {H : Hp} {l : Addr} {xs : List V} (h : H l = some (.lst xs)) : tyV K "list" (.ref l) H := Or.inl ⟨rfl, _, Or.inl (Or.inl h)⟩
theorem app_ask {H : Hp} {l : Addr} {xs : List V} {y : V} {Q : VK} (h : H l = some (.lst xs)) (hz : xs.length < sizeLine) (q : Q .non (upd H l (.lst (xs ++ [y])))) : rAppend (.ref l) [y] H Q := ⟨l, xs, y, rfl, rfl, h, hz, q⟩
/-! ### comprehensions and loops, the walked thing at hand -/
def LcGo (J : It) (g : TG) (tt : TT) (te : TE) (vs : List Nat) (σ : L2.St) (H1 : Hp) (Q : VK) : Prop := ∀ D, H1 D = none → ∃ W : Nat → Nat → Hp → Prop, (∃ m, W 0 m (upd H1 D (.lst []))) ∧ ∀ i m H, W i m H →
  (J.stop i H ∧ Q (.ref D) H) ∨ (J.go i H ∧ ∃ Nx : Hp → Prop, (∀ H', Nx H' → ∃ m', m' < m ∧ W (i + 1) m' H') ∧ ∀ x H', J.yld i H x H' → g x (wipe σ vs) H' fun σ2 H2 => wipe σ2 vs = wipe σ vs ∧ tt σ2 H2 fun b H3 =>
    if b = true then te σ2 H3 fun y H4 => ∃ acc, H4 D = some (.lst acc) ∧ acc.length < sizeLine ∧ Nx (upd H4 D (.lst (acc ++ [y]))) else Nx H3)
theorem tLc_eq (wi : TI) (g : TG) (tt : TT) (te : TE) (vs : List Nat) (σ : L2.St) (H : Hp) (Q : VK) : tLc wi g tt te vs σ H Q = wi σ H fun J H1 => LcGo J g tt te vs σ H1 Q := rfl
theorem lcGo {J : It} {n : Nat} {G : Hp → Prop} {Y : Nat → Hp → V → Hp → Prop} (wk : Walk J n G Y) {g : TG} {tt : TT} {te : TE} {vs : List Nat} {σ : L2.St} {H1 : Hp} {Q : VK} (R : Nat → List V → Hp → Prop)
    (h0 : ∀ D, H1 D = none → R 0 [] (upd H1 D (.lst []))) (hG : ∀ H, Same H1 H → G H)
    (hs : ∀ D i x acc H H', H1 D = none → i < n → Same H1 H → H D = some (.lst acc) → acc.length ≤ i → R i acc H → Y i H x H' → g x (wipe σ vs) H' fun σ2 H2 => wipe σ2 vs = wipe σ vs ∧ tt σ2 H2 fun b H3 =>
      if b = true then te σ2 H3 fun y H4 => ∃ acc, H4 D = some (.lst acc) ∧ acc.length < sizeLine ∧ LcP H1 D R (i + 1) (upd H4 D (.lst (acc ++ [y]))) else LcP H1 D R (i + 1) H3)
    (hd : ∀ D acc H, H1 D = none → Same H1 H → H D = some (.lst acc) → acc.length ≤ n → R n acc H → Q (.ref D) H) : LcGo J g tt te vs σ H1 Q := fun D nD =>
  lc_it wk (LcP H1 D R) (.start nD (h0 D nD)) (fun i H _ ⟨_, sm, _⟩ => hG H sm) (fun i x H H' hi ⟨acc, sm, e, l, r⟩ y => hs D i x acc H H' nD hi sm e l r y) fun H ⟨acc, sm, e, l, r⟩ => hd D acc H nD sm e l r
def ForGo (J : It) (g : TG) (tb : TS) (D : Ends) (σ : L2.St) (H : Hp) : Prop := ∃ W : Nat → Nat → L2.St → Hp → Prop, (∃ m, W 0 m σ H) ∧ ∀ i m σ H, W i m σ H →
      (J.stop i H ∧ D.nx σ H) ∨ (J.go i H ∧ ∃ N : L2.St → Hp → Prop, (∀ σ' H', N σ' H' → ∃ m', m' < m ∧ W (i + 1) m' σ' H') ∧ ∀ x H', J.yld i H x H' → g x σ H' fun σ2 H2 => tb { D with nx := N, ct := N, bk := D.nx } σ2 H2)
theorem tFor_eq (wi : TI) (g : TG) (tb : TS) (D : Ends) (σ : L2.St) (H : Hp) : tFor wi g tb D σ H = wi σ H fun J H1 => ForGo J g tb D σ H1 := rfl
theorem forGo {J : It} {n : Nat} {G : Hp → Prop} {Y : Nat → Hp → V → Hp → Prop} (wk : Walk J n G Y) {g : TG} {tb : TS} {D : Ends} {σ : L2.St} {H : Hp} (Pv : Nat → L2.St → Hp → Prop) (h0 : Pv 0 σ H) (hG : ∀ i σ H, i ≤ n → Pv i σ H → G H)
    (hs : ∀ i x σ H H', i < n → Pv i σ H → Y i H x H' → g x σ H' fun σ2 H2 => tb { D with nx := Pv (i + 1), ct := Pv (i + 1), bk := D.nx } σ2 H2) (hd : ∀ σ H, Pv n σ H → D.nx σ H) : ForGo J g tb D σ H := for_it wk Pv h0 hG hs hd
/-- the heap behind a store to the list D: tuples stay -/
theorem tups_lst {H : Hp} {D : Addr} {xs : List V} (h : H D = some (.lst xs)) (o : HO) : Tups H (upd H D o) := tups_put o h (fun _ z => by cases z) fun _ _ z => by cases z
end K91
set_option Elab.async false
set_option linter.all false
set_option maxRecDepth 100000
set_option maxHeartbeats 4000000
/-! Rules that the layer lacks: a star target, == of dicts, != of lists with an own ==, len by an own __len__. -/
namespace K91
open PySem PySem.Spec PyProof.Rows L2
/-! ### *xs, y = a list -/
section
variable {prog : Program} {w : World} {A : Around} {E : Value → Shared → Prop} {s : Shared}
theorem star_last {l : Addr} {items : Array Value} {Q : List Value → Shared → Prop} (noh : A.handled = none) (isl : s.heap.IsList l items) (h1 : 1 ≤ items.size) (hz : items.size ≤ 16384)
    (fin : ∀ h2 tk, Heap.ExtBut s.heap.objs.size s.heap h2 → Q (.ref h2.objs.size :: items.toList.drop (items.size - 1)) { s with heap := h2.push { cls := .type "list", data := .seq (items.toList.take (items.size - 1)).toArray }, toks := tk }) :
    wpAny (model prog w) A (unpackItems (.ref l) 2 (some 0)) Q E s := by
  have nel : l ≠ s.heap.objs.size := by obtain ⟨o, ho, _⟩ := isl; exact Nat.ne_of_lt (Heap.lt_size ho)
  unfold unpackItems
  refine wpAny_bind ?_
  unfold notIterableAtAll
  refine wpAny_bind (wpAny_specialOf isl.typeIs slot_list_iter.lookup ?_)
  refine wpAny_pure ?_
  rw [if_neg Bool.false_ne_true]
  refine wpAny_bind (wpAny_holding (wpAny_pyIter_list isl ?_))
  refine wpAny_bind (wpAny_holding (PySem.W.kun_draw nel 0 0 _ _ ⟨_, Heap.get?_push_size _ rfl, rfl, rfl⟩ (isl.push _) (by omega) fun hp1 it1 sb1 => ?_))
  have isl1 : hp1.IsList l items := (isl.push _).extBut sb1.extBut nel
  have it1' := it1
  obtain ⟨oi, hoi, _⟩ := it1'
  have isl1' := isl1
  obtain ⟨ol, hol, _⟩ := isl1'
  rw [List.take_zero]
  rw [if_neg (show ¬ (([] : List Value).length < 0) from Nat.not_lt_zero _)]
  refine wpAny_bind (wpAny_holding (PySem.W.kun_collect (s := { s with heap := hp1 }) (T := "list_iterator") (.inr (.inr (.inl rfl))) (Walks.list (A := A.in1) noh s.heap.objs.size l nel items) (fun j u st => st.1.typeIs) (k := 0) (by omega) ⟨it1, isl1⟩ (Heap.lt_size hoi) (Heap.lt_size hol) (fun h2 tk keep => ?_) (by rw [sizeLine_eq]; omega)))
  have len0 : (items.toList.drop 0).length = items.size := by rw [List.drop_zero, Array.length_toList]
  show wpAny _ _ (if (items.toList.drop 0).length < 2 - 1 - 0 then _ else _) _ _ _
  rw [if_neg (by rw [len0]; omega)]
  show wpAny _ _ (newList ((items.toList.drop 0).take ((items.toList.drop 0).length - (2 - 1 - 0))) >>= fun d => pure ([] ++ [d] ++ (items.toList.drop 0).drop ((items.toList.drop 0).length - (2 - 1 - 0)))) _ _ _
  rw [len0, List.drop_zero]
  have ext : Heap.ExtBut s.heap.objs.size s.heap h2 := fun b o hb e => keep b o hb (sb1.extBut b o hb (Heap.get?_push_of_some _ e))
  exact wpAny_bind (wpAny_newList (s := { s with heap := h2, toks := tk }) (wpAny_pure (fin h2 tk ext)) (by rw [List.length_take, Array.length_toList, sizeLine_eq]; omega))
end
section
variable {X : Cx}
def gStar (K : PySem.W.Frag) (t : TGs) : TG := fun v σ H Q => ∃ a xs y, v = .ref a ∧ SqL K H a (xs ++ [y]) ∧ xs.length ≤ 16000 ∧ ∀ D, H D = none → t [.ref D, y] σ (upd H D (.lst xs)) Q
theorem pg_star {a b : Expr} {p pos : Pos} {k : Nat} {t : TGs} (hc : X.calm = true) (h : PGs X [a, b] t) (he : (assignEach [.Starred a p, b] X.env).map (·.2) = (assignEach [a, b] X.env).map (·.2) := by rfl)
    (hn : (assignEach [.Starred a p, b] X.env).length = 2 := by rfl) (hst : (assignEach [.Starred a p, b] X.env).findIdx? (·.1) = some 0 := by rfl) : PG X (.Tuple [.Starred a p, b] k pos) (gStar X.K t) := by
  refine ⟨fun pins s σ H v u Q I r hw => ?_⟩
  obtain ⟨l, xs, y, rfl, hq, hz, hw⟩ := hw
  cases r
  obtain ⟨its, rv, pl, _⟩ := I.list hq
  have isl : s.heap.IsList l its.toArray := by
    obtain ⟨o, m, e, c, d, q⟩ := pl
    exact ⟨o, e, c, m, q⟩
  have ln := rv.length
  rw [List.length_append, List.length_singleton] at ln
  rw [PyProof.Rows.assign_Tuple]
  refine wpAny_bind (wpAny_standAt ?_)
  unfold unpack
  rw [hn, hst, he]
  refine wpAny_bind (wpAny_holding (star_last (I.ok.hd hc) isl (by rw [List.size_toArray]; omega) (by rw [List.size_toArray]; omega) fun h2 tk ext => ?_))
  have I1 : Inv X pins σ H { s with heap := h2, toks := tk } := I.kept (t' := tk) fun b o e => ext b o (Nat.ne_of_lt (Heap.lt_size e)) e
  have nD : H h2.objs.size = none := I1.hok.fresh (Nat.le_refl _)
  have sz : its.toArray.size - 1 = xs.length := by rw [List.size_toArray]; omega
  have r1 : Vals xs (its.take xs.length) := by
    have := rv.take xs.length
    rwa [List.take_left] at this
  have r2 : Vals [y] (its.drop xs.length) := by
    have := rv.drop xs.length
    rwa [List.drop_left] at this
  have I2 : Inv X pins σ (upd H h2.objs.size (.lst xs)) { s with heap := h2.push { cls := .type "list", data := .seq (its.take xs.length).toArray }, toks := tk } :=
    I1.laid (t' := tk) (fun b o e => Heap.get?_push_of_some _ e) (Nat.le_refl _) ⟨by rw [sizeLine_eq]; omega, its.take xs.length, 0, r1, Heap.get?_push_size _ rfl⟩
  rw [sz]
  refine h.run pins _ σ _ [.ref h2.objs.size, y] _ Q I2 ?_ (hw _ nD)
  exact .cons rfl r2
/-! ### == of dicts -/
/-- d == {} -/
def rEqD0 : R2 := fun x y H Q => ∃ a b ks, x = .ref a ∧ y = .ref b ∧ H a = some (.dK ks) ∧ H b = some (.dK []) ∧ Q (.bl ks.isEmpty) H
theorem op_eqD0 (hu : X.A.units < cLine) : OpR X (compareOp .Eq) rEqD0 := by
  intro pins s σ H x y v u Q I rx ry h
  obtain ⟨a, b, ks, rfl, rfl, ha, hb, q⟩ := h
  cases (show v = Value.ref a from rx)
  cases (show u = Value.ref b from ry)
  obtain ⟨_, ya, va, ra, da⟩ := (show ObjOk X.prog X.w H s.heap a (.dK ks) from I.hok a _ ha)
  obtain ⟨_, yb, vb, rb, db⟩ := (show ObjOk X.prog X.w H s.heap b (.dK []) from I.hok b _ hb)
  have eb : vb = [] := List.eq_nil_of_length_eq_zero rb.length.symm
  subst eb
  have la := ra.length
  refine PySem.W.rcP_dicts (knd := mixKind X.prog X.w) (r := true) ya yb da db hu (fun e => ?_) _ _ ?_
  · have : va = [] := List.eq_nil_of_length_eq_zero e
    subst this
    exact .nil
  · have e : (va.length == ([] : List (Key × Value)).length && true) = ks.isEmpty := by
      rw [← la]
      cases ks <;> rfl
    rw [e]
    exact ⟨.bl _, H, I, rfl, q⟩
/-- two dicts of the same keys with equal data -/
def rEqDD (K : PySem.W.Frag) : R2 := fun x y H Q => ∃ a b ks ls, x = .ref a ∧ y = .ref b ∧ H a = some (.dK ks) ∧ H b = some (.dK ls) ∧ ks.length = ls.length ∧
  (∀ p ∈ ks, ∃ u, valV ls p.1 = some u ∧ ∃ d, Dp K H p.2 d ∧ Dp K H u d ∧ SeqAt.shaped d = true) ∧ Q (.bl true) H
theorem op_eqDD (hu : X.A.units + 65 < cLine) : OpR X (compareOp .Eq) (rEqDD X.K) := by
  intro pins s σ H x y v u Q I rx ry h
  obtain ⟨a, b, ks, ls, rfl, rfl, ha, hb, hl, hp, q⟩ := h
  cases (show v = Value.ref a from rx)
  cases (show u = Value.ref b from ry)
  obtain ⟨_, ya, va, ra, da⟩ := (show ObjOk X.prog X.w H s.heap a (.dK ks) from I.hok a _ ha)
  obtain ⟨_, yb, vb, rb, db⟩ := (show ObjOk X.prog X.w H s.heap b (.dK ls) from I.hok b _ hb)
  have ih : ∀ x y v u, (∃ d, Dp X.K H x d ∧ Dp X.K H y d ∧ SeqAt.shaped d = true) → RelV x v → RelV y u → SeqAt.EqP X.prog X.w X.A.in1 s v u true := fun x y v u ⟨d, h1, h2, sd⟩ r1 r2 => by
    obtain ⟨as, q1⟩ := Dp.reads I d x v h1 r1
    obtain ⟨bs, q2⟩ := Dp.reads I d y u h2 r2
    have c := SeqAt.canLay_of_shaped sd
    have := SeqAt.eqAt_reads d d X.A.in1 s v u as bs q1 q2 c c (SeqAt.room_of_shaped (db := d) (A := X.A.in1) sd (by show X.A.units + 1 + 64 < cLine; omega))
    rw [SeqAt.eqv_refl d c] at this
    exact this.eqP
  refine PySem.W.rcP_dicts (knd := mixKind X.prog X.w) (r := true) ya yb da db (by omega) (fun _ => hits_run ih rb ra hp) _ _ ?_
  have e : va.length = vb.length := by rw [← ra.length, ← rb.length]; exact hl
  rw [show (va.length == vb.length && true) = true from by rw [e]; simp]
  exact ⟨.bl true, H, I, rfl, q⟩
end
/-! ### != of lists, their items by an own == -/
section
variable {prog : Program} {w : World} {A : Around} {R : Result → Shared → Prop} {E : Value → Shared → Prop}
open AutoSeq1 MeetsSeq MeetsSeq2 MeetsSeq3
theorem ne_turns (l b : Addr) (N : Nat) (I : Nat → Shared → Prop) (hl : GQ.ListI prog w A (fun e s' => R (.error e) s') l b N I) (fin : ∀ s, I N s → R (.ok (.ret (.bool false))) s) (k : Nat) :
    ∀ i : Nat, N - i = k → i ≤ N → ∀ s, I i s →
      wpAny (model prog w) A.in1 (Builtin.«list.__eq__.loop» ⟨[.ref l, .ref b, rawInt i, rawInt 3], []⟩) (GQ.FinOf prog w A R) (fun e s' => R (.error e) s') s := by
  induction k with
  | zero =>
    intro i hk hi s h
    obtain ⟨xs, ys, n, n2, g1, g2, z1, z2, _⟩ := hl _ _ h
    have hi' : i = N := by omega
    have hR : R (.ok (.ret (.bool false))) s := fin s (hi' ▸ h)
    obtain ⟨hp, g, d, tk, os⟩ := s
    wp_walk using wpAny_loadPart' g1, wpAny_loadPart' g2
    have e1 : xs[((i : Nat) : Int).toNat]? = none := by simp; omega
    have e2 : ys[((i : Nat) : Int).toNat]? = none := by simp; omega
    rw [e1, e2]
    wp_walk using wpAny_loadPart' g1, wpAny_loadPart' g2
    show R (.ok (.ret (.bool (xs.size != ys.size)))) _
    rw [z1, z2]
    simpa using hR
  | succ k ih =>
    intro i hk hi s h
    obtain ⟨xs, ys, n, n2, g1, g2, z1, z2, turn⟩ := hl _ _ h
    have l1 : i < xs.size := by omega
    have l2 : i < ys.size := by omega
    have ht := turn l1 l2
    obtain ⟨hp, g, d, tk, os⟩ := s
    wp_walk using wpAny_loadPart' g1, wpAny_loadPart' g2
    have e1 : xs[((i : Nat) : Int).toNat]? = some xs[i] := by simp [l1]
    have e2 : ys[((i : Nat) : Int).toNat]? = some ys[i] := by simp [l2]
    have ec : ((i : Int) + 1) = ((i + 1 : Nat) : Int) := by omega
    rw [e1, e2]
    refine wpAny_bind (wpAny_mono ht (fun r s2 h2 => ?_) fun _ _ x => x)
    obtain ⟨hr, h2⟩ := h2
    subst hr
    have rec' := ih (i + 1) (by omega) (by omega) s2 h2
    obtain ⟨hp2, g2', d2, tk2, os2⟩ := s2
    wp_walk
    rw [ec]
    exact ⟨plainId_quiet plain_eq_loop _, codeAny_builtin entry_eq_loop (by
      rw [Around.under_plainId plain_eq_loop _]
      exact rec')⟩
theorem list_neG (l b : Addr) (N : Nat) (I : Nat → Shared → Prop) (hl : GQ.ListI prog w A (fun e s' => R (.error e) s') l b N I) (fin : ∀ s, I N s → R (.ok (.ret (.bool false))) s) {s : Shared} (h : I 0 s) :
    wpAny (model prog w) A.in1 (Builtin.«list.__ne__» ⟨[.ref l, .ref b], []⟩) (GQ.FinOf prog w A R) (fun e s' => R (.error e) s') s := by
  obtain ⟨xs, ys, n, n2, g1, g2, z1, z2, _⟩ := hl _ _ h
  have rec' := ne_turns (A := A) (R := R) l b N I hl fin _ 0 rfl (Nat.zero_le _) s h
  obtain ⟨hp, g, d, tk, os⟩ := s
  have f3 := AutoSeq1.sub_list_list
  have hne : ¬ (xs.size != ys.size) = true := by simp [z1, z2]
  wp_walk using wpAny_loadPart' g1, wpAny_loadPart' g2
  exact ⟨plainId_quiet plain_eq_loop _, codeAny_builtin entry_eq_loop (by
    rw [Around.under_plainId plain_eq_loop _]
    exact rec')⟩
theorem rcne_listG {l b : Addr} {N : Nat} {Q : Value → Shared → Prop} {s : Shared} (hu : A.units < cLine) (I : Nat → Shared → Prop) (hl : GQ.ListI prog w A E l b N I)
    (fin : ∀ s, I N s → Q (.bool false) s) (h : I 0 s) : wpAny (model prog w) A (richCompare .NotEq (.ref l) (.ref b)) Q E s := by
  obtain ⟨xs, ys, n, n2, g1, g2, _, _, _⟩ := hl _ _ h
  refine wpAny_richCompare_same_room (op := .NotEq) ⟨_, g1, rfl⟩ ⟨_, g2, rfl⟩ F.slot_list_ne (GQ.call_here F.slot_list_ne ⟨_, g1, rfl⟩ F.entry_list_ne (F.args_list_ne_2 _ _) ?_) hu
  exact list_neG (R := wants (fun v s' => v ≠ .notImplemented ∧ Q v s') E) l b N I hl (fun s' q => ⟨(fun x => nomatch x), fin s' q⟩) h
end
section
variable {X : Cx} {n : Nat} {D : Eqv}
/-- xs != ys: False -/
def rNeG (D : Eqv) : R2 := fun x y H Q => DList D x y H ∧ ∀ H', Same H H' → Q (.bl false) H'
theorem op_neG (hD : Mon D) (h : EqG X n D) (hr : Room (n + 1) X.A) : OpR X (compareOp .NotEq) (rNeG D) := by
  intro pins s σ H x y v u Q I rx ry hq
  obtain ⟨⟨a, b, xs, ys, rfl, rfl, ha, hb, p⟩, q⟩ := hq
  cases (show v = Value.ref a from rx)
  cases (show u = Value.ref b from ry)
  show wpAny (model X.prog X.w) X.A (richCompare .NotEq (.ref a) (.ref b)) (EP X pins σ Q) X.xe s
  refine rcne_listG (N := xs.length) hr.units0 (fun _ s' => LoopI X pins σ H s') (fun i s' z => ?_) (fun s' z => ?_) ⟨H, I, Ext.rfl'⟩
  · obtain ⟨H1, I1, e1⟩ := id z
    obtain ⟨_, its, k, r, e⟩ := I1.hok a _ (e1 _ _ ha)
    obtain ⟨_, its2, k2, r2, e2⟩ := I1.hok b _ (e1 _ _ hb)
    refine ⟨its.toArray, its2.toArray, k, k2, e, e2, by rw [List.size_toArray, ← r.length], by rw [List.size_toArray, ← r2.length, ← p.1], fun h1 h2 => ?_⟩
    exact turnG hD h ⟨hr, rfl⟩ p r r2 i h1 h2 s' z
  · obtain ⟨H1, I1, e1⟩ := z
    exact ⟨.bl false, H1, I1, rfl, q H1 e1⟩
end
/-! ### len(x) by an own __len__ -/
section
open PySem.W
variable {M : Model} {A : Around} {E : Value → Shared → Prop} {s : Shared} {K : PySem.W.Frag} {x C f : Addr} {ox : Obj} {od : Option Obj} {name : Str}
theorem special_K {args : List Value} {Q : Option Value → Shared → Prop} (X : K.In s.heap) (I : PySem.W.InstAt s.heap x ox C od) (hs : findIn K (.ref C) name = some (some (.ref f))) (hf : isFn K (.ref f) = true)
    (h : wpAny M A (call (.ref f) (.ref x :: args)) (fun v => Q (some v)) E s) : wpAny M A (callSpecial? (.ref x) name args) Q E s := by
  simp only [callSpecial?]
  refine wpAny_bind ((I.type.andThen (looks_findIn X hs)).here ?_)
  refine wpAny_holding (wpAny_bind ((bind_fn X _ (beq_iff_eq.mp hf)).here ?_))
  exact wpAny_bind (wpAny_mono h (fun v s' z => wpAny_pure z) fun _ _ z => z)
end
section
variable {X : Cx}
def rLenO (C : Addr) (sp : Sp) : List V → Hp → VK → Prop := fun xs H Q => ∃ a dx fs, xs = [.ref a] ∧ H a = some (.ins C dx fs) ∧ sp [.ref a] H (fun v H' => ∃ n : Nat, v = .int n ∧ n < 1000000 ∧ Q (.int n) H') E0
theorem call_lenO {k : Nat} {C f : Addr} {sp : Sp} (hm : Meth X.K C "__len__" f) (F : FnR X.prog X.w X.K X.mg X.base CX0 k f sp) (hr : Room (k + 1) X.A) : CallR X (.builtin "len") (rLenO C sp) := by
  intro pins s σ H xs us Q I r h
  obtain ⟨a, dx, fs, rfl, ha, hsp⟩ := h
  obtain ⟨u, rfl, ru⟩ := vals1 r
  obtain rfl : u = Value.ref a := ru
  obtain ⟨mA, J, _⟩ := ins_get I.hok ha
  obtain ⟨od, J, _⟩ := J.look
  refine Calls.call_function_entry kind_len plain_len entry_len (args_len1 _) ?_
  unfold Builtin.«len»
  refine wpAny_bind (m := oneArg "len" _) (wpAny_pure ?_)
  refine wpAny_bind (m := callSpecial? (.ref a) (PySem.Str.ofString "__len__")) (special_K I.kIn J hm.at_ hm.fn ?_)
  have e0 : Env0 X.prog X.w X.K X.mg X.base X.A.in1 X.stack s H := I.env0.in1
  refine wpAny_call (codeAny_mono (F X.A.in1 X.stack s H [.ref a] [.ref a] _ E0 hr.in1 e0 (.cons rfl .nil) hsp) fun r s' hq => ?_)
  cases r with
  | error e => exact (show False from hq).elim
  | ok fl =>
    cases fl with
    | ret z =>
      obtain ⟨v, H', I', rz, n, rfl, hn, q⟩ := I.after hq
      obtain ⟨t, rfl⟩ := rz
      refine wpAny_bind (wpAny_holding (wpAny_pure ?_))
      refine wpAny_bind (wpAny_letGo ?_)
      show wpAny _ _ (if ((n : Nat) : Int) < 0 then _ else _) _ _ _
      rw [if_neg (by omega)]
      show wpAny _ _ (if ((n : Nat) : Int) ≥ 2 ^ 63 then _ else _) _ _ _
      rw [if_neg (by omega)]
      exact wpAny_bind (wpAny_mkInt (wpAny_pure ⟨_, rfl, .int n, H', I'.tok _, ⟨_, rfl⟩, q⟩))
    | next => exact False.elim hq
    | brk => exact False.elim hq
    | cont => exact False.elim hq
/-! ### isinstance(x, C), C an own class -/
structure IsC (K : PySem.W.Frag) (C : Addr) : Prop where
  ha : PySem.W.findIn K (.ref C) "__class__" = some (some (.builtin "object.__class__"))
  hn : PySem.W.specialIn K (.builtin "object.__class__") "__get__" = some (some (.builtin "getset_descriptor.__get__"))
  htk : PySem.W.takesIn K (.builtin "object.__class__") = some true
  hm : PySem.W.mroIn K C (.type "object") = some true
  me : PySem.W.kitOne K (.ref C) (.ref C) = some true
theorem isi_own {K : PySem.W.Frag} {H : Hp} {a C dx : Addr} {fs : List (Str × V)} {Q : VK} (c : Cls K C) (i : IsC K C) (h : H a = some (.ins C dx fs)) (q : Q (.bl true) H) : rIsi K [.ref a, .ref C] H Q :=
  ⟨.ref a, .ref C, .ref C, .ref C, true, rfl, .own C, .base (.ins h c i.ha i.hn i.htk i.hm), i.me, q⟩
/-! ### repr of data -/
/-- the text of repr of two equal data is the same -/
def rReprD (K : PySem.W.Frag) : List V → Hp → VK → Prop := fun xs H Q => ∃ a d, xs = [.ref a] ∧ Dp K H (.ref a) d ∧ d.showable = true ∧ d.hasDict = false ∧ d.depth ≤ 60 ∧ d.shown.length ≤ sizeLine ∧ Q (.str d.shown) H
theorem call_reprD {k : Nat} (hr : Room k X.A) (hg : X.A.guards = some []) : CallR X (.builtin "repr") (rReprD X.K) := by
  intro pins s σ H xs us Q I r h
  obtain ⟨a, d, rfl, hd, hs, hnd, hdep, hz, q⟩ := h
  obtain ⟨u, rfl, ru⟩ := vals1 r
  obtain rfl : u = Value.ref a := ru
  obtain ⟨as, rd⟩ := Dp.reads I d (.ref a) (.ref a) hd rfl
  have hun := hr.un
  refine PySem.repr_of_reads' rd hs (fun z => by rw [hnd] at z; cases z) hg (by omega) (fun b o e => e) (fun h' u' tk keep => ?_) hz
  exact ⟨.str d.shown, H, I.kept (t' := tk) keep, ⟨u', rfl⟩, q⟩
end
end K91
set_option Elab.async false
set_option linter.all false
set_option maxRecDepth 100000
set_option maxHeartbeats 0
/-! The head: what the top leaves, by one run. -/
namespace K91
open PySem PySem.Spec PyProof.Rows L2
def faG : List He.Fa := kGlo.map .glo ++ kGlo.map .keep ++ kRef.map .glo ++ kFree.map .free ++ kInt.map (fun q => .int q.1 q.2) ++ kStr.map (fun q => .str q.1 q.2) ++ kCls.map .cls ++ kCls.map .mkr ++ kNoat.map (fun q => .noat q.1 q.2) ++ kMeth.map (fun q => .meth q.1 q.2)
def tabG : List He.Tab := [((fun K => He.ga K "SHAPES"), shapes.map Prod.fst)]
def tupB (K : PySem.W.Frag) (q : Str × List Str) : Bool := match K.lookup (He.ga K q.1) with
  | some ⟨.type c, _, .seq its _, _⟩ => decide (c = "tuple") && (decide (its.size ≤ sizeLine) && He.relAll (q.2.map V.str) its.toList)
  | _ => false
def isB (K : PySem.W.Frag) (C : Addr) : Bool := He.eqO (PySem.W.findIn K (.ref C) "__class__") (some (some (.builtin "object.__class__"))) && (He.eqO (PySem.W.specialIn K (.builtin "object.__class__") "__get__") (some (some (.builtin "getset_descriptor.__get__"))) &&
  (decide (PySem.W.takesIn K (.builtin "object.__class__") = some true) && (decide (PySem.W.mroIn K C (.type "object") = some true) && decide (PySem.W.kitOne K (.ref C) (.ref C) = some true))))
def exG (K : PySem.W.Frag) : Bool := shpB K && (kTup.all (tupB K) && isB K (He.ga K "Program"))
abbrev RR : PySem.W.OpenRow := PySem.W.OpenLaw.row PySem.Challenge.rw_samepoint_k91_whole_program_texts_both_w
abbrev qv : Program := PySem.W.view RR.prog [77]
def loose : List PySem.Str := (["SamepointError", "InvalidProgram", "InvalidText", "UnknownFunction", "UnknownBox", "LIMIT", "MOST_LEVELS", "MOST_LETTERS", "LETTERS", "is_integer", "is_value", "is_name", "OPERATORS", "is_nested", "is_expression", "MOST_FUNCTIONS", "MOST_BOXES", "MOST_PARAMETERS", "MOST_BODY", "MOST_DEPTH", "RULES", "MAIN", "SHAPES", "is_part", "is_statement", "is_body", "bodies_of", "statements_in", "check_box", "check_parameters"] : List PySem.Str) ++ (["check_definition", "check_tables", "Checker", "Program", "DIGITS", "MOST_DIGITS", "MOST_NESTED", "STEP", "ELSE", "HANDLE", "expression_text", "statement_words", "middle_words", "body_lines", "format_program", "number_in", "Row", "Reader", "parse_program", "_law_source", "_law_draw", "_law_choose", "_law_shuffled", "_law_new_word", "_law_new_words", "_law_value", "_law_expression", "_law_tail", "_law_entered", "_law_nested"] : List PySem.Str) ++ (["_law_statement", "_law_body", "_law_world", "_law_definitions", "_law_box_rows", "_law_term_text", "_law_line", "_law_rows", "_law_written", "_law_text_right", "_law_long_right", "_law_cell_holds"] : List PySem.Str)
abbrev hk : PySem.W.Hook := He.hookX 4 faG fn tabG [] exG
def ob (s : PySem.W.SharedT) : He.AlX := He.obsX 4 faG fn tabG [] exG (HandSHeadRun.getT s)
theorem ob_eq (s : PySem.W.SharedT) : ob s = hk.obs s.abs := He.obsX_eq (HandSHeadRun.getT_eq s)
theorem run91a (w : World) : HandSHeadRun.RunEq RR qv hk ob 20000 loose (w.withFollow "special-get-raises" false) := by
  intro os
  kernel_rfl
theorem run91b (w : World) : HandSHeadRun.RunEq RR qv hk ob 20000 loose (w.withFollow "special-get-raises" true) := by
  intro os
  kernel_rfl
theorem run91 (w : World) : HandSHeadRun.RunEq RR qv hk ob 20000 loose w := PySem.W.byRow2 "special-get-raises" (P := fun w => HandSHeadRun.RunEq RR qv hk ob 20000 loose w) run91a run91b w
end K91
set_option Elab.async false
set_option linter.all false
set_option maxRecDepth 100000
set_option maxHeartbeats 4000000
/-! A def that needs to know that nothing is being shown around it. -/
namespace K91
open PySem PySem.Spec PyProof.Rows L2
def FnG (P : Program) (w : World) (K : PySem.W.Frag) (mg : Str → Option Value) (base : Heap) (k : Nat) (f : Addr) (sp : Sp) : Prop :=
  ∀ (A : Around) (outer : List Env) (s : Shared) (H : Hp) (us : List Value) (vs : List V) (Q : VK) (E : XK), Room k A → A.guards = some [] → Env0 P w K mg base A outer s H → Vals vs us → sp vs H Q E →
    codeAny (model P w) A (.call (.ref f) ⟨us, []⟩) (CR CX0 outer P w H s Q E) s
section
variable {P : Program} {w : World} {K : PySem.W.Frag} {mg : Str → Option Value} {base : Heap}
theorem mkG {x qual : Str} {params : Arguments} {body : List Stmt} {scope : Scope} {f : Addr} {fd : FuncData} {N ps : List Str} {k : Nat} {sp : Sp} (F : FunD K x qual params body scope [] [] f fd) (S : FnScope N ps scope)
    (bd : ∀ (kV doc pm : Value) (an : Option Addr) (cdv ct : Value) (us : List Value), us.length = ps.length → bindArgs (PySem.W.fnOf x qual params body scope .none kV doc pm an cdv ct) ⟨us, []⟩ = pure (ps.zip us))
    (len : ∀ vs H Q E, sp vs H Q E → vs.length = ps.length)
    (hbody : ∀ (cdv : Value) (A : Around) (outer : List Env) (s : Shared) (H : Hp) (vs : List V) (Q : VK) (E : XK), Room k (A.deeper (envOfC qual scope s.heap.objs.size f cdv)) → (A.deeper (envOfC qual scope s.heap.objs.size f cdv)).guards = some [] → sp vs H Q E →
      ∃ t, PSs (cxOf CX0 P w K mg base N qual scope f cdv A outer s H E).nox body t ∧ t { nx := fun _ H' => Q .non H', rt := Q } (start N vs) H) : FnG P w K mg base (k + 1) f sp := by
  intro A outer s H us vs Q E hr hgA e0 r hsp
  have hl := len _ _ _ _ hsp
  have hb := F.bindsN bd
  obtain ⟨oc, od, dV, kV, doc, pm, an, cdv, ct, osl, rfl, lk, hcd, _, _⟩ := F.ex
  have KX : K.In s.heap := e0.mod.kin.keeps fun b o e => (e0.bs b o e).1
  have lim : s.heap.NoLimit := e0.mod.nolimit.keeps fun b o e => (e0.bs b o e).1
  have hlu : us.length = ps.length := by rw [← r.length]; exact hl
  have hkind : ∀ y ∈ ps.zip us, scope.names.lookup y.1 = some .local ∨ (scope.names.lookup y.1 = some .cell ∧ ((cellsFrom (s.heap.objs.size + 1) scope.names []).lookup y.1).isSome = true) := fun ⟨n, v⟩ hy => by
    rcases S.par n (List.of_mem_zip hy).1 with q | q
    · exact .inl q
    · exact .inr ⟨q, PySem.W.cellsFrom_some _ _ _ (.inl q)⟩
  have hb' := hb s us KX (by simpa using hlu)
  rw [List.append_nil] at hb'
  refine codeAny_call_function hr.depth (KX _ _ lk) rfl S.co S.gen rfl (PySem.W.codeRec_of KX hcd) (hb' _ _ _ _ ?_)
  refine wpAny_newFunctionEnv_cells S.kind hkind fun env he s1 x => ?_
  subst he
  refine ⟨lim.keeps x.toInCall.keep, codeAny_func ?_⟩
  obtain ⟨t, ht, hq⟩ := hbody cdv A outer s H vs Q E (hr.deeper _) hgA hsp
  have I : Inv (cxOf CX0 P w K mg base N qual scope f cdv A outer s H E) [] (start N vs) H s1 := inv_start S hr.hd e0 hl r x
  refine wpAny_mono (ht.nox.run [] s1 (start N vs) H _ I hq) (fun fl s' hs => ?_) fun e s' hs => hs
  have fin : ∀ {σ' : L2.St} {H' : Hp} {v : V} {u : Value}, Inv (cxOf CX0 P w K mg base N qual scope f cdv A outer s H E) [] σ' H' s' → RelV v u → Q v H' → CE outer P w H s Q u s' :=
    fun {σ' H' v u} J rv q => ⟨v, H', J.os, J.bare, J.base, J.hok, rv, q⟩
  cases fl with
  | ret u =>
    obtain ⟨v, σ', H', J, rv, q⟩ := hs
    exact fin J rv q
  | next =>
    obtain ⟨σ', H', J, q⟩ := hs
    exact fin (v := V.non) (u := Value.none) J rfl q
  | brk =>
    obtain ⟨_, _, _, q⟩ := hs
    exact False.elim q
  | cont =>
    obtain ⟨_, _, _, q⟩ := hs
    exact False.elim q
end
section
variable {X : Cx}
theorem pcallG {k k' : Nat} {f : Addr} {sp : Sp} {x : Str} {p pos : Pos} {e : Expr} {es : List Expr} {t : TA} (F : FnG X.prog X.w X.K X.mg X.base k f sp) (hr : Room k' X.A) (hgd : X.A.guards = some []) (g : X.mg x = some (.ref f) ∧ PySem.W.keepIn X.K (.ref f) = true)
    (ha : PA X (e :: es) t) (hk : k ≤ k' := by omega) (hg : Gl X x := by rfl) (hd : (x == ("__debug__" : Str)) = false := by decide) (he : starEach (e :: es) X.env = (false, eval e X.env) :: starEach es X.env := by rfl) (hpl : (backTo pos (starEach es X.env)).any (·.1) = false := by rfl) :
    PE X (.Call (.Name x p) (e :: es) [] pos) (tCallR sp t) := by
  refine ⟨fun pins s σ H Q I h => ?_⟩
  refine wpAny_Call_Name_kw (ld_glob I hg g.1 ?_ hd)
  refine PySem.W.callWith_K (h₀ := X.base) I.ok.mod.kin g.2 (thn (ha.run pos pins s σ H _ I h) fun us s1 ⟨vs, H1, I1, r, q⟩ => ⟨I1.kIn, ?_⟩) he hpl
  refine wpAny_call (codeAny_mono (F X.A X.stack s1 H1 us vs Q E0 (hr.mono hk) hgd I1.env0 r q) fun r s' hq => ?_)
  cases r with
  | error e => exact pass0 pins σ H1 s1 e s' I1 hq
  | ok fl =>
    cases fl with
    | ret u => exact I1.after hq
    | next => exact False.elim hq
    | brk => exact False.elim hq
    | cont => exact False.elim hq
/-- the own ==, by position -/
theorem rcG_insR {n : Nat} {C f : Addr} {R : Addr → Addr → Hp → Prop} (F : FnR X.prog X.w X.K X.mg X.base CX0 n f (spEq R)) (hm : Meth X.K C "__eq__" f) : RcG X n (DIns C R) := by
  intro A pins s σ H x y u v sb I rx ry d
  obtain ⟨a, b, dx, dy, fs, gs, rfl, rfl, ha, hb', hr⟩ := d
  cases rx
  cases ry
  obtain ⟨mA, J, _⟩ := ins_get I.hok ha
  obtain ⟨mB, J', _⟩ := ins_get I.hok hb'
  obtain ⟨od, J, _⟩ := J.look
  obtain ⟨od', J', _⟩ := J'.look
  obtain ⟨m, hF⟩ := I.fr
  refine PySem.W.cmp_K (op := .Eq) (tb := .ref C) sb.room.units0 hF I.ok.mod.kin J J'.type (by simp [PySem.W.notFirst]) hm.at_ hm.fn ?_
  have hsp : spEq R [.ref a, .ref b] H (fun v H' => v = .bl true ∧ Ext H H') E0 := ⟨a, b, rfl, hr, fun H' e => ⟨rfl, e⟩⟩
  have e0 : Env0 X.prog X.w X.K X.mg X.base A X.stack s H := by
    have e := I.env0
    exact ⟨by rw [sb.fr]; exact e.frames, e.mod, e.bs, e.bsz, e.funs, e.frf, e.hok, e.bare⟩
  refine wpAny_call (codeAny_mono (F A X.stack s H [.ref a, .ref b] [.ref a, .ref b] _ E0 sb.room e0 (.cons rfl (.cons rfl .nil)) hsp) fun r s' hq => ?_)
  cases r with
  | error e => exact (show False from hq).elim
  | ok fl =>
    cases fl with
    | ret w =>
      obtain ⟨z, H', I', rz, ez, ex⟩ := I.after hq
      subst ez
      cases rz
      exact ⟨rfl, H', I', ex⟩
    | next => exact False.elim hq
    | brk => exact False.elim hq
    | cont => exact False.elim hq
theorem eqG_insR {n : Nat} {C f : Addr} {R : Addr → Addr → Hp → Prop} (F : FnR X.prog X.w X.K X.mg X.base CX0 n f (spEq R)) (hm : Meth X.K C "__eq__" f) : EqG X n (DIns C R) :=
  (rcG_insR F hm).eqG fun _ _ _ d => let ⟨a, b, _, _, _, _, hx, hy, _⟩ := d; ⟨a, b, hx, hy⟩
end
end K91
set_option Elab.async false
set_option linter.all false
set_option maxRecDepth 100000
set_option maxHeartbeats 4000000
namespace K91
open PySem PySem.Spec PyProof.Rows L2
/-! ### from the run's facts to Top -/
theorem tup_of {K : PySem.W.Frag} {q : Str × List Str} (h : tupB K q = true) (H : Hp) : SqT K H (He.ga K q.1) (q.2.map V.str) := by
  unfold tupB at h
  split at h
  · rename_i c d its n sl e
    rw [Bool.and_eq_true, Bool.and_eq_true, decide_eq_true_eq, decide_eq_true_eq] at h
    exact .inr ⟨_, its, n, e, congrArg Value.type h.1, rfl, h.2.1, He.relAll_ok h.2.2⟩
  · cases h
theorem shp_of {K : PySem.W.Frag} (h : shpB K = true) {q : Str × List Str} (hq : q ∈ shapes) : ∃ t, PySem.W.nsIn K (He.ga K "SHAPES") q.1 = some (some (.ref t)) ∧ ∀ H : Hp, SqT K H t (q.2.map V.str) := by
  unfold shpB at h
  have hh := List.all_eq_true.mp h q hq
  split at hh
  · rename_i t et
    split at hh
    · rename_i c d its n sl e
      rw [Bool.and_eq_true, Bool.and_eq_true, decide_eq_true_eq, decide_eq_true_eq] at hh
      exact ⟨t, et, fun H => .inr ⟨_, its, n, e, congrArg Value.type hh.1, rfl, hh.2.1, He.relAll_ok hh.2.2⟩⟩
    · cases hh
  · cases hh
theorem is_of {K : PySem.W.Frag} {C : Addr} (h : isB K C = true) : IsC K C := by
  unfold isB at h
  simp only [Bool.and_eq_true, decide_eq_true_eq] at h
  exact ⟨He.eqO_ok h.1, He.eqO_ok h.2.1, h.2.2.1, h.2.2.2.1, h.2.2.2.2⟩
theorem top_of {K : PySem.W.Frag} {mg : Str → Option Value} {w : World} {h : Heap} (X : K.In h) (G : h.Ns mainGlobals mg) (c : He.SaysX faG fn tabG [] exG w h K) : Top K mg w ∧ IsC K (He.ga K "Program") := by
  have d := c.t.d
  have mo := c.more
  unfold exG at mo
  rw [Bool.and_eq_true, Bool.and_eq_true] at mo
  obtain ⟨m1, m2, m3⟩ := mo
  have fa : ∀ f ∈ faG, f.ok K = true := fun f hf => d.facts hf
  have g1 : ∀ x ∈ kGlo, (He.Fa.glo x).ok K = true := fun x hx => fa _ (by unfold faG; simp only [List.mem_append, List.mem_map]; exact .inl (.inl (.inl (.inl (.inl (.inl (.inl (.inl (.inl ⟨x, hx, rfl⟩)))))))))
  have g2 : ∀ x ∈ kGlo, (He.Fa.keep x).ok K = true := fun x hx => fa _ (by unfold faG; simp only [List.mem_append, List.mem_map]; exact .inl (.inl (.inl (.inl (.inl (.inl (.inl (.inl (.inr ⟨x, hx, rfl⟩)))))))))
  have g3 : ∀ x ∈ kRef, (He.Fa.glo x).ok K = true := fun x hx => fa _ (by unfold faG; simp only [List.mem_append, List.mem_map]; exact .inl (.inl (.inl (.inl (.inl (.inl (.inl (.inr ⟨x, hx, rfl⟩))))))))
  have g4 : ∀ x ∈ kFree, (He.Fa.free x).ok K = true := fun x hx => fa _ (by unfold faG; simp only [List.mem_append, List.mem_map]; exact .inl (.inl (.inl (.inl (.inl (.inl (.inr ⟨x, hx, rfl⟩)))))))
  have g5 : ∀ q ∈ kInt, (He.Fa.int q.1 q.2).ok K = true := fun x hx => fa _ (by unfold faG; simp only [List.mem_append, List.mem_map]; exact .inl (.inl (.inl (.inl (.inl (.inr ⟨x, hx, rfl⟩))))))
  have g6 : ∀ q ∈ kStr, (He.Fa.str q.1 q.2).ok K = true := fun x hx => fa _ (by unfold faG; simp only [List.mem_append, List.mem_map]; exact .inl (.inl (.inl (.inl (.inr ⟨x, hx, rfl⟩)))))
  have g7 : ∀ x ∈ kCls, (He.Fa.cls x).ok K = true := fun x hx => fa _ (by unfold faG; simp only [List.mem_append, List.mem_map]; exact .inl (.inl (.inl (.inr ⟨x, hx, rfl⟩))))
  have g8 : ∀ x ∈ kCls, (He.Fa.mkr x).ok K = true := fun x hx => fa _ (by unfold faG; simp only [List.mem_append, List.mem_map]; exact .inl (.inl (.inr ⟨x, hx, rfl⟩)))
  have g9 : ∀ q ∈ kNoat, (He.Fa.noat q.1 q.2).ok K = true := fun x hx => fa _ (by unfold faG; simp only [List.mem_append, List.mem_map]; exact .inl (.inr ⟨x, hx, rfl⟩))
  have g0 : ∀ q ∈ kMeth, (He.Fa.meth q.1 q.2).ok K = true := fun x hx => fa _ (by unfold faG; simp only [List.mem_append, List.mem_map]; exact .inr ⟨x, hx, rfl⟩)
  exact ⟨{ glo := fun x hx => ⟨He.glo_ok X G (g1 x hx), He.keep_ok (g2 x hx)⟩
           ref := fun x hx => He.glo_ok X G (g3 x hx)
           free := fun x hx => He.free_ok X G (g4 x hx)
           int := fun q hq => He.int_ok X G (g5 q hq)
           str := fun q hq => He.str_ok X G (g6 q hq)
           tup := fun q hq H => tup_of (List.all_eq_true.mp m2 q hq) H
           cls := fun C hC => ⟨He.cls_ok (g7 C hC), He.mkr_ok (g8 C hC)⟩
           noat := fun q hq => He.noat_ok (g9 q hq)
           meth := fun q hq => He.meth_ok (g0 q hq)
           def_ := fun x hx => d.defs hx
           shp := c.t.tab 0
           shpV := fun q hq => shp_of m1 hq }, is_of m3⟩
/-! ### the call of the law -/
section
variable {P : Program} {w : World} {K : PySem.W.Frag} {mg mb : Str → Option Value} {k : Nat} {fa a : Addr} {sp : Sp} {s1 : Shared} {vs : List Value} {ns : List Int}
/-- a picture of the heap: the script alone, or nothing -/
theorem picture (P : Program) (w : World) (KX : K.In s1.heap) (ha : s1.heap.get? a = some { cls := .type "list", data := .seq vs.toArray }) (hi : IntsAre vs ns) (hl : ns.length ≤ sizeLine) :
    ∃ H : Hp, (∀ b u, H b = some u → b = a ∧ u = .frz { cls := .type "list", data := .seq vs.toArray } (.lst (ns.map V.int)) ∧ K.lookup a = none) ∧ SqL K H a (ns.map V.int) ∧ HOk P w H s1.heap := by
  have nv : vs.toArray.size ≤ sizeLine := by rw [List.size_toArray, hi.length]; exact hl
  have rel : Vals (ns.map V.int) vs := vals_ints hi
  by_cases hk : K.lookup a = none
  · refine ⟨fun b => if b = a then some (.frz { cls := .type "list", data := .seq vs.toArray } (.lst (ns.map V.int))) else none, ?_, .inl (.inr ⟨_, if_pos rfl⟩), ?_⟩
    · intro b u e
      dsimp only at e
      by_cases q : b = a
      · rw [if_pos q] at e
        exact ⟨q, (Option.some.inj e).symm, hk⟩
      · rw [if_neg q] at e
        cases e
    · intro b u e
      dsimp only at e
      by_cases q : b = a
      · rw [if_pos q] at e
        obtain rfl := (Option.some.inj e).symm
        subst q
        exact ⟨ha, by rw [List.length_map]; exact hl, vs, _, rel, ha⟩
      · rw [if_neg q] at e
        cases e
  · obtain ⟨o, eo⟩ := Option.ne_none_iff_exists'.mp hk
    have same := KX a o eo
    rw [ha] at same
    obtain rfl := Option.some.inj same
    exact ⟨fun _ => none, fun _ _ e => (by cases e), .inr ⟨_, vs.toArray, _, eo, rfl, rfl, rfl, nv, by simpa using rel⟩, fun _ _ e => (by cases e)⟩
theorem enterG (KX : K.In s1.heap) (hns : s1.heap.Ns mainGlobals mg) (hb : s1.heap.Ns builtinsNs mb) (hbb : ∀ x : Str, x ≠ "__name__" → mb x = bootBuiltins x) (hlim : s1.heap.NoLimit) (hg : s1.gens = #[])
    (ha : s1.heap.get? a = some { cls := .type "list", data := .seq vs.toArray }) (hi : IntsAre vs ns) (hl : ns.length ≤ sizeLine) (hr : Room k callerA)
    (F : ∀ base : Heap, FnG P w K mg base k fa sp) (hsp : ∀ H : Hp, SqL K H a (ns.map V.int) → sp [.ref a] H (fun v _ => v = .bl true) E0) :
    codeAny (model P w) callerA (.call (.ref fa) ⟨[.ref a], []⟩) (fun r s' => r = .ok (.ret (.bool true)) ∧ OldK s1.heap s'.heap ∧ s'.os = s1.os ∧ AllBare s'.gens) s1 := by
  obtain ⟨H, only, sql, okH⟩ := picture P w KX ha hi hl
  have clear : ∀ {b : Addr} {o : Obj}, s1.heap.get? b = some o → (∀ n, o.data ≠ .seq vs.toArray n) → H b = none := fun {b o} e nd => by
    cases q : H b with
    | none => rfl
    | some u =>
      obtain ⟨rfl, _, _⟩ := only b u q
      rw [ha] at e
      obtain rfl := Option.some.inj e
      exact absurd rfl (nd _)
  have nsH : ∀ {b : Addr} {m : Str → Option Value}, s1.heap.Ns b m → (hidT s1.heap H).Ns b m := fun {b m} z => by
    obtain ⟨o, es, ep, e, d, r⟩ := z
    exact ⟨o, es, ep, hidT_get e (clear e fun n z => by rw [d] at z; cases z), d, r⟩
  have KH : K.In (hidT s1.heap H) := fun b o e => hidT_get (KX b o e) (by
    cases q : H b with
    | none => rfl
    | some u =>
      obtain ⟨rfl, _, z⟩ := only b u q
      rw [z] at e
      cases e)
  obtain ⟨mc, l1, l2⟩ := hlim
  have M : Mod K mg (hidT s1.heap H) := ⟨KH, nsH hns, ⟨mb, nsH hb, hbb⟩, ⟨mc, nsH l1, l2⟩⟩
  have env : Env0 P w K mg (hidT s1.heap H) callerA [] s1 H :=
    { frames := rfl, mod := M, bs := fun _ _ e => of_hidT e, bsz := Nat.le_of_eq (hidT_size _ _), funs := trivial, frf := (fun _ z => nomatch z), hok := okH, bare := .of_eq hg }
  refine codeAny_mono (F _ callerA [] s1 H [.ref a] [.ref a] (fun v _ => v = .bl true) E0 hr rfl env (.cons rfl .nil) (hsp H sql)) fun r s' z => ?_
  match r, z with
  | .error _, z => exact False.elim z
  | .ok .next, z => exact False.elim z
  | .ok .brk, z => exact False.elim z
  | .ok .cont, z => exact False.elim z
  | .ok (.ret u), z =>
    obtain ⟨v, H', os, bare, un, ok', rel, q⟩ := z
    obtain rfl : v = .bl true := q
    obtain rfl : u = Value.bool true := rel
    refine ⟨rfl, OldK.of_keep fun b o e => ?_, os, bare⟩
    cases q : H b with
    | none => exact un.keep b o e q (fun z => nomatch z) (by simp)
    | some x =>
      obtain ⟨_, rfl, _⟩ := only b x q
      have old := (okH b _ q).1
      have new := (ok' b _ (un.frzs b _ _ q)).1
      rw [e] at old
      rw [Option.some.inj old]
      exact new
end
end K91
set_option Elab.async false
set_option linter.all false
set_option maxRecDepth 100000
set_option maxHeartbeats 4000000
/-! Rules that the layer lacks: enumerate of a tuple. -/
namespace PySem
open Sem (wp)
open AutoSeq1 (wpAny_loadPart')
theorem k91_meets_enumerate_newT (l : Addr) (items : Array Value) (n : Nat) (dct : Option Addr) (sl : Array (Option Value)) :
    Meets (Builtin.«enumerate.__new__» ⟨[.type "enumerate", .ref l], []⟩) (fun _ R s => s.heap.get? l = some { cls := .type "tuple", dict := dct, data := .seq items n, slots := sl } ∧
      R (.ok (.ret (.ref (s.heap.push { cls := .type "tuple_iterator", data := .fields #[.ref l, .int 0 0] }).objs.size)))
        { s with heap := (s.heap.push { cls := .type "tuple_iterator", data := .fields #[.ref l, .int 0 0] }).push { cls := .type "enumerate", data := .fields #[.none, .bool false, .ref s.heap.objs.size, rawInt 0, .none, .none] } }) :=
  .of_wp fun prog w A R s h => by
    obtain ⟨hp, g, d, tk, os⟩ := s; obtain ⟨hl, h⟩ := h
    have hsub := sub_enumerate
    have hL : Heap.IsTuple (Shared.heap ⟨hp, g, d, tk, os⟩) l items := ⟨_, hl, rfl, n, rfl⟩
    wp_walk using wpAny_loadPart' hl
    refine wpAny_stack_any fun st => wpAny_pure ?_
    split
    · rename_i c _ _ _ _ _
      cases (c == Value.type "enumerate")
      · wp_walk using wpAny_loadPart' hl, wpAny_pyIter_tuple hL
        exact ⟨_, rfl, h⟩
      · wp_walk using wpAny_loadPart' hl, wpAny_pyIter_tuple hL
        exact ⟨_, rfl, h⟩
    · wp_walk using wpAny_loadPart' hl, wpAny_pyIter_tuple hL
      exact ⟨_, rfl, h⟩
section
variable {prog : Program} {w : World} {A : Around} {E : Value → Shared → Prop} {s : Shared}
theorem k91_call_enumerate_tuple {l : Addr} {items : Array Value} {Q : Value → Shared → Prop} (hL : s.heap.IsTuple l items)
    (h : ∀ h', IsEnum h' (s.heap.objs.size + 1) s.heap.objs.size 0 .none → h'.IsTupleIter s.heap.objs.size l 0 → h'.objs.size = s.heap.objs.size + 2 →
      (∀ b o, s.heap.get? b = some o → h'.get? b = some o) → Q (.ref (s.heap.objs.size + 1)) { s with heap := h' }) :
    wpAny (model prog w) A (call (.type "enumerate") [.ref l]) Q E s := by
  obtain ⟨⟨c, dct, dt, sl⟩, hl, hc, n, hd⟩ := hL
  replace hc : c = .type "tuple" := hc
  replace hd : dt = .seq items n := hd
  subst hc hd
  refine callType_new F.called_enumerate (by decide) (F.typeCall_enumerate_1 _) (F.newCall_enumerate_1 _) (fun obj => F.args_object_init_2 obj _) F.entry_enumerate_new
    (k91_meets_enumerate_newT l items n dct sl) ⟨hl, ?_⟩
  have hz : (s.heap.push { cls := .type "tuple_iterator", data := .fields #[.ref l, .int 0 0] }).objs.size = s.heap.objs.size + 1 := Heap.size_push ..
  show _ ∧ _
  rw [hz]
  have he : IsEnum ((s.heap.push { cls := .type "tuple_iterator", data := .fields #[.ref l, .int 0 0] }).push
      { cls := .type "enumerate", data := .fields #[.none, .bool false, .ref s.heap.objs.size, rawInt 0, .none, .none] }) (s.heap.objs.size + 1) s.heap.objs.size 0 .none := by
    have := Heap.get?_push_size (s.heap.push { cls := .type "tuple_iterator", data := .fields #[.ref l, .int 0 0] })
      (o := { cls := .type "enumerate", data := .fields #[.none, .bool false, .ref s.heap.objs.size, rawInt 0, .none, .none] }) rfl
    rw [hz] at this; exact this
  refine ⟨⟨_, he, rfl⟩, h _ he ⟨_, Heap.get?_push_of_some _ (Heap.get?_push_size _ rfl), rfl, rfl⟩ (by rw [Heap.size_push, hz]) fun b o x => Heap.get?_push_of_some _ (Heap.get?_push_of_some _ x)⟩
theorem k91_enum_end_tuple {e it l : Addr} {i : Nat} {items : Array Value} {old : Value} {Q : Option Value → Shared → Prop} (hh : A.handled = none)
    (he : IsEnum s.heap e it i old) (hit : s.heap.IsTupleIter it l i) (hl : s.heap.IsTuple l items) (hx : items.size ≤ i)
    (hQ : ∀ h', Heap.ExtBut it s.heap h' → Q none { s with heap := h' }) : wpAny (model prog w) A (pyNext (.ref e)) Q E s := by
  have hT : s.TypeIs (.ref e) "enumerate" := ⟨_, he, rfl⟩
  unfold pyNext
  refine wpAny_bind (wpAny_attempt (wpAny_callSpecial?_slot (name := Str.ofString "__next__") hT F.slot_enumerate_next
    (wpAny_call_entry F.slot_enumerate_next hT F.entry_enumerate_next ?_ (F.args_enumerate_next_1 _))))
  show wpAny _ _ (field (.ref e) 2 >>= _) _ _ _
  refine wpAny_bind (wpAny_field he rfl (x := .ref it) rfl ?_)
  refine wpAny_bind (wpAny_nextOf_tuple_end hh hit hl (by simpa using hx) fun h' x he' hx' => ?_)
  obtain ⟨o, ho, hc⟩ := hx'
  refine wpAny_bind (wpAny_isInstance (T := "StopIteration") (b := true) ⟨o, ho, hc⟩ isSubtype_stop ?_)
  exact wpAny_pure (hQ _ he')
end
end PySem
namespace K91
open PySem PySem.Spec PyProof.Rows L2
/-- the tuple at a as it stands at each turn, each item in a new pair -/
def IteT (K : PySem.W.Frag) (a : Addr) : It :=
  ⟨fun i H => ∃ (xs : List V) (x : V), SqT K H a xs ∧ xs[i]? = some x, fun i H v H' => ∃ T x, v = .ref T ∧ H T = none ∧ H' = upd H T (.tup [.int (i : Nat), x]) ∧ ∀ xs, SqT K H a xs → xs[i]? = some x, fun i H => ∃ xs : List V, SqT K H a xs ∧ xs.length ≤ i⟩
theorem turn_enumT {P : Program} {w : World} {K : PySem.W.Frag} {elts : List Expr} {kk : Nat} {tpos : Pos} (a e it : Addr) (hae : a ≠ it) (hae2 : a ≠ e) :
    Turn P w K (.Tuple elts kk tpos) (IteT K a) [e, it] e (fun i h => (∃ old, IsEnum h e it ((i : Nat) : Int) old) ∧ h.IsTupleIter it a i ∧ e ≠ it) where
  mem := by simp
  obj := fun i h st b hb => by
    obtain ⟨⟨old, he⟩, ⟨o, ho, hc, hd⟩, _⟩ := st
    have e' : b = e ∨ b = it := by simpa using hb
    rcases e' with z | z
    · rw [z]; exact ⟨_, he, fun v q => nomatch q⟩
    · rw [z]; exact ⟨o, ho, fun v q => by rw [hd] at q; cases q⟩
  keep := fun i h h' st k => let ⟨⟨old, he⟩, hi, hne⟩ := st; ⟨⟨old, k e (by simp) _ he⟩, hi.at fun o q => k it (by simp) o q, hne⟩
  item := by
    intro X hP hw hK hc i pins s σ H E I hf st hg
    subst hP hw hK
    obtain ⟨⟨old, he⟩, hit, hne⟩ := st
    obtain ⟨xs, x, hq, hx⟩ := hg
    obtain ⟨its, rv, p, hz⟩ := I.tuple hq
    obtain ⟨u, hu, ru⟩ := rv.get hx
    have hel : e < s.heap.objs.size := Heap.lt_size he
    have hil : it < s.heap.objs.size := by obtain ⟨_, q, _⟩ := hit; exact Heap.lt_size q
    have hi : i < its.toArray.size := by simpa using (List.getElem?_eq_some_iff.mp hu).1
    refine wpAny_pyNext_enum_itemD (Draws.tuple (A := X.A.in1) (I.ok.hd hc) it a hae its.toArray) he ⟨hit, p⟩ hi hne (by simp [hne, Ne.symm hae2]) fun x2 h' tk hx2 ho hst hT hsz hk => ?_
    have ex : x2 = u := by
      have h1 : its.toArray[i]? = some u := by simpa using hu
      rw [h1] at hx2
      exact (Option.some.inj hx2).symm
    subst ex
    refine ⟨_, rfl, wpAny_letOwnedTupleGo_enum (s := { s with heap := h', toks := tk + 1 }) ho fun h'' he' sb => ?_⟩
    have hT2 : h''.get? s.heap.objs.size = some { cls := .type "tuple", data := .seq #[.int i tk, x2] } := (sb.2 _ (Nat.ne_of_gt hel)).trans hT
    have new : ObjOk X.prog X.w (upd H s.heap.objs.size (.tup [.int (i : Nat), x])) h'' s.heap.objs.size (.tup [.int (i : Nat), x]) :=
      ⟨by show 2 ≤ sizeLine; decide, [.int i tk, x2], .cons ⟨_, rfl⟩ (.cons ru .nil), ⟨_, hT2, rfl, _, rfl⟩⟩
    have I1 : Inv X pins σ (upd H s.heap.objs.size (.tup [.int (i : Nat), x])) { s with heap := h'', toks := tk + 1 } :=
      I.turnedNew (ch := [e, it]) (fun b ob hb q => (sb.2 b (fun z => hb (by simp [z]))).trans (hk b ob (fun z => hb (by simp [z])) (fun z => hb (by simp [z])) q)) hf (Nat.le_refl _) new
    refine ⟨.ref s.heap.objs.size, _, I1, rfl, ⟨_, x, rfl, I.hok.fresh (Nat.le_refl _), rfl, fun ys hy => by rw [I.tuple_inj hy hq]; exact hx⟩, ⟨⟨x2, ?_⟩, hst.1.at fun o q => (sb.2 it (Ne.symm hne)).trans q, hne⟩, fun b hb => ?_⟩
    · have e1 : ((i + 1 : Nat) : Int) = (i : Int) + 1 := by omega
      rw [e1]; exact he'
    · have hb' : b < s.heap.objs.size := by
        have e' : b = e ∨ b = it := by simpa using hb
        rcases e' with z | z
        · rw [z]; exact hel
        · rw [z]; exact hil
      rw [upd_ne (Nat.ne_of_lt hb')]
      exact (hf b hb).1
  done := by
    intro X hP hw hK hc i pins s σ H E I hf st hg
    subst hP hw hK
    obtain ⟨⟨old, he⟩, hit, hne⟩ := st
    obtain ⟨xs, hq, hx⟩ := hg
    obtain ⟨its, rv, p, hz⟩ := I.tuple hq
    obtain ⟨f0, f1, f2, f3, f4, f5⟩ := hf it (by simp)
    have hl := rv.length
    exact k91_enum_end_tuple (I.ok.hd hc) he hit p (by simp; omega) fun h' eb => ⟨rfl, I.turned (t' := s.toks) (fun b o hb q => eb b o hb q) f0 f1 f3 f4 f5⟩
  self := fun A i s Q E st h => let ⟨⟨_, he⟩, _⟩ := st; wpAny_pyIter_enum he h
def iEnumT (K : PySem.W.Frag) (ta : TA) : TI := fun σ H R => ta σ H fun vs H1 => ∃ a xs, vs = [.ref a] ∧ SqT K H1 a xs ∧ R (IteT K a) H1
theorem pi_enumT {X : Cx} {e : Expr} {ta : TA} {p pos tpos : Pos} {elts : List Expr} {kk : Nat} (hg : Gl X "enumerate") (hm : X.mg "enumerate" = none) (ha : PA X [e] ta) (hs : starEach [e] X.env = [(false, eval e X.env)] := by rfl) :
    PI X (.Tuple elts kk tpos) (.Call (.Name "enumerate" p) [e] [] pos) (iEnumT X.K ta) := by
  refine ⟨fun pins s σ H R I h => ?_⟩
  refine Call_ (ld_blt I hg hm boot_enumerate (PyProof.Rows.callWith_type1 (thn (ha.run pos pins s σ H _ I h) fun us s1 ⟨vs, H1, I1, r1, q1⟩ => ?_) hs rfl))
  obtain ⟨a, xs, ex, hq, q⟩ := q1
  subst ex
  cases r1 with
  | cons r rr =>
    cases rr
    cases r
    obtain ⟨its, rv, p', hz⟩ := I1.tuple hq
    have hal : a < s1.heap.objs.size := by obtain ⟨_, e, _⟩ := p'; exact Heap.lt_size e
    refine k91_call_enumerate_tuple p' fun h' he hit hsz hk => wpAny_pyIter_enum he ?_
    have I2 : Inv X pins σ H1 { s1 with heap := h' } := I1.kept (t' := s1.toks) hk
    refine ⟨s1.heap.objs.size + 1, [s1.heap.objs.size + 1, s1.heap.objs.size], _, _, H1, rfl, I2, turn_enumT a (s1.heap.objs.size + 1) s1.heap.objs.size (Nat.ne_of_lt hal) (Nat.ne_of_lt (Nat.lt_succ_of_lt hal)), ⟨⟨.none, he⟩, hit, Nat.succ_ne_self _⟩, fun b hb => ?_, q⟩
    have e' : b = s1.heap.objs.size + 1 ∨ b = s1.heap.objs.size := by simpa using hb
    have hle : s1.heap.objs.size ≤ b := by
      rcases e' with z | z
      · rw [z]; exact Nat.le_add_right _ _
      · rw [z]; exact Nat.le_refl _
    exact I1.fpOk hle (I1.hok.fresh hle)
theorem walk_enumT {K : PySem.W.Frag} {a : Addr} {xs : List V} : Walk (IteT K a) xs.length (fun H => SqT K H a xs) (YPair (fun i => some (.int (i : Nat))) (fun i => xs[i]?)) := by
  refine ⟨fun i _ hi q => ⟨xs, xs[i], q, by simp [hi]⟩, fun _ q => ⟨xs, q, Nat.le_refl _⟩, fun i H v H' _ q y => ?_⟩
  obtain ⟨T, x, h1, h2, h3, h4⟩ := y
  exact ⟨T, .int (i : Nat), x, h1, h2, h3, rfl, h4 xs q⟩
end K91
set_option Elab.async false
set_option linter.all false
set_option maxRecDepth 100000
/-! What the checks of the program answer, as plain functions on data. -/
namespace K91
open PySem
def isIntD (d : PyData) : Bool := tyD d == "int"
theorem isInt_isi (d : PyData) : isIntD d = (isiB (tyD d) "int" && !isiB (tyD d) "bool") := by
  rw [isi_int, isi_eq d (b := "bool") (by simp)]
  cases d <;> simp [isIntD, tyD]
def limit : Int := 1000000000000000000000000000000000000000000000000000000000000
def isValD : PyData → Bool
  | .int i => decide (-limit ≤ i) && decide (i ≤ limit)
  | _ => false
def letters : Str := "abcdefghijklmnopqrstuvwxyz"
def nameB (x : Str) : Bool := decide ((1 : Int) ≤ (x.length : Nat)) && decide (((x.length : Nat) : Int) ≤ 8) && x.cps.toList.all fun c => decide (c ∈ letters.cps.toList)
def isNameD : PyData → Bool
  | .str x => nameB x
  | _ => false
def ops : List Str := ["add", "sub", "mul", "div", "mod", "less", "same"]
def opD (f : PyData → Bool) (n : Nat) : PyData → Bool
  | .tuple [.str o, l, r] => n != 0 && ops.contains o && f l && f r
  | _ => false
def nestedB : Nat → PyData → Bool
  | 0, _ => false
  | n + 1, d => isValD d || isNameD d || opD (nestedB n) n d
theorem opD_len {f : PyData → Bool} {n : Nat} {ds : List PyData} (h : ds.length ≠ 3) : opD f n (.tuple ds) = false := by
  match ds, h with
  | [], _ => rfl
  | [a], _ => cases a <;> rfl
  | [a, b], _ => cases a <;> rfl
  | [a, b, c], h => exact absurd rfl h
  | a :: b :: c :: d :: r, _ => cases a <;> rfl
theorem opD_zero {f : PyData → Bool} {d : PyData} : opD f 0 d = false := by
  unfold opD
  split <;> rfl
theorem opD_nostr {f : PyData → Bool} {n : Nat} {a b c : PyData} (h : tyD a ≠ "str") : opD f n (.tuple [a, b, c]) = false := by
  cases a <;> first | rfl | exact absurd rfl h
def jumpB : PyData → Bool
  | .int k => decide (1 ≤ k)
  | _ => false
def argsB : PyData → Bool
  | .tuple es => decide (((es.length : Nat) : Int) ≤ 5) && es.all (nestedB 6)
  | _ => false
def partB (kind : Str) (d : PyData) : Bool :=
  if kind = "name" then isNameD d else if kind = "expression" then nestedB 6 d else if kind = "jump" then jumpB d else if kind = "args" then argsB d else true
/-- the kinds of a statement's parts, by its word -/
def shapeOf (w : Str) : Option (List Str) := shapes.lookup w
/-- parts by their kinds -/
def partsB (ks : List Str) (ps : List PyData) : Bool := ps.length == ks.length && (ks.zip ps).all fun q => partB q.1 q.2
def bodyB : PyData → Bool
  | .tuple ds => decide ((1 : Int) ≤ (ds.length : Nat)) && decide (((ds.length : Nat) : Int) ≤ 20)
  | _ => false
/-- the bodies among the parts -/
def bodiesL (ks : List Str) (ps : List PyData) : List PyData := ((ks.zip ps).filter fun q => decide (q.1 = ("body" : Str))).map Prod.snd
/-- what the statements of a program may name -/
structure Cx91 where
  sizes : List (Str × Nat)
  boxes : List Str
def usesOk (c : Cx91) (loops : Nat) (wd : Str) (ps : List PyData) : Prop :=
  (wd = "call" → ∃ a f es, ps = [a, .str f, .tuple es] ∧ c.sizes.lookup f = some es.length) ∧
  (wd = "fork" → ∃ a f es, ps = [a, .str f, .tuple es] ∧ c.sizes.lookup f = some (es.length + 1)) ∧
  (wd = "write" → ∃ b e, ps = [.str b, e] ∧ b ∈ c.boxes) ∧ (wd = "read" → ∃ x b, ps = [x, .str b] ∧ b ∈ c.boxes) ∧
  (wd = "break" ∨ wd = "continue" → ∃ k : Int, ps = [.int k] ∧ k ≤ loops)
def stmtOk (c : Cx91) (B : Nat → PyData → Prop) (loops : Nat) (d : PyData) : Prop := ∃ wd ps ks, d = .tuple (.str wd :: ps) ∧ shapeOf wd = some ks ∧ partsB ks ps = true ∧ usesOk c loops wd ps ∧
  ∀ b ∈ bodiesL ks ps, B (if wd = "loop" then loops + 1 else loops) b
/-- a body of at most n bodies one in another, with so many loops around it -/
def bodyOk (c : Cx91) : Nat → Nat → PyData → Prop
  | 0, _, _ => False
  | n + 1, loops, d => ∃ ds, d = .tuple ds ∧ 1 ≤ ds.length ∧ ds.length ≤ 20 ∧ ∀ s ∈ ds, stmtOk c (bodyOk c n) loops s
/-- how many statements -/
def cntS (f : PyData → Nat) : PyData → Nat
  | .tuple (.str wd :: ps) => 1 + ((bodiesL ((shapeOf wd).getD []) ps).map f).sum
  | _ => 0
def cntB : Nat → PyData → Nat
  | 0, _ => 0
  | n + 1, .tuple ds => (ds.map (cntS (cntB n))).sum
  | _ + 1, _ => 0
end K91
set_option Elab.async false
set_option linter.all false
set_option maxRecDepth 100000
set_option maxHeartbeats 4000000
namespace K91
open PySem PySem.Spec PyProof.Rows L2
local macro_rules | `(tactic| walk_at "wp") => `(tactic| simp only [cxK, cxw, cxK', cxw', start1, start2, start3, start4, start5, tRet, tRetN, tAsg, gName, gTup, gCons, gNil, gSub, tDrop, tNext, tIfS, tIf, tVar, tC, tAndV, tOrV, tNotV, tAnd, tOr, tNot, tTest, tB, tCB, tCons, tNil, tOp, tUn, rI0, rI, rU, rEq, rNe, rIn, tChain, tFld, sFld, tSl, tPart, tNoPart, tTup, tLst, tCallR, tMethR, tMethO, tBM, tBM0, tM0, tM1, tDGet, tDIn, tDNotIn, tDNewK, tCmp, t2I, tIsN, tNotN, tYes, wipe, List.map_cons, List.map_nil,
  List.length_cons, List.length_nil, Nat.reduceAdd, Nat.reduceSub, List.replicate_succ, List.replicate_zero, if_true, if_false, Bool.not_true, Bool.not_false, Bool.false_eq_true, reduceIte,
  List.set_cons_zero, List.set_cons_succ, List.getElem?_cons_zero, List.getElem?_cons_succ, Option.some.injEq, exists_eq_left', exists_eq_left, V.int.injEq, V.str.injEq, V.bl.injEq, V.ref.injEq, V.ty.injEq, List.cons.injEq, and_true, true_and, and_assoc, exists_and_left, List.nil_append, List.cons_append, List.append_nil])
local macro_rules | `(tactic| walk_at "st") => `(tactic| (refine sq ?_; walk_at "wp"))
section
variable {P : Program} {w : World} {K : PySem.W.Frag} {mg : Str → Option Value} {base : Heap}
def spD1 (K : PySem.W.Frag) (f : PyData → Bool) : Sp := fun vs H Q _ => ∃ v d, vs = [v] ∧ Dt K H v d ∧ ∀ H', Same H H' → Q (.bl (f d)) H'
theorem ok_is_integer (T : Top K mg w)  : FnR P w K mg base CX0 1 (He.ga K "is_integer") (spD1 K isIntD) := by
  obtain ⟨fd, F⟩ := T.def_ d_is_integer (List.mem_of_getElem? (i := 0) rfl)
  refine mkR F sc_is_integer (fun _ _ _ _ _ _ us hl => match us, hl with | [_], _ => rfl) (fun vs H Q E h => ?_) (fun cdv A outer s H vs Q E hr h => ?_)
  · obtain ⟨v, d, rfl, _⟩ := h
    rfl
  obtain ⟨v, d, rfl, hd, q⟩ := h
  refine ⟨_, pss_one (ps_ret (pe_and (pe_callB call_isi (by rfl) (T.free "isinstance" (by decide +kernel)) (by decide +kernel) (pa_cons (pv 0) (pa_cons (pe_bltn (v := .ty "int") (u := .type "int") (by rfl) (T.free "int" (by decide +kernel)) (by decide +kernel) rfl) pa_nil))) (pe_one (pe_not (pe_callB call_isi (by rfl) (T.free "isinstance" (by decide +kernel)) (by decide +kernel) (pa_cons (pv 0) (pa_cons (pe_bltn (v := .ty "bool") (u := .type "bool") (by rfl) (T.free "bool" (by decide +kernel)) (by decide +kernel) rfl) pa_nil))))))), ?_⟩
  walk_at "wp"
  refine isi_ask hd.dp (kit_int _) ?_
  walk_at "wp"
  have q := q H (.refl H)
  rw [isInt_isi] at q
  refine ite2 (fun c => ?_) (fun c => ?_)
  · rw [c] at q
    exact isi_ask hd.dp (kit_bool _) ⟨_, rfl, q⟩
  · rw [Bool.eq_false_iff.mpr c] at q
    exact q
theorem ok_is_value (T : Top K mg w) : FnR P w K mg base CX0 2 (He.ga K "is_value") (spD1 K isValD) := by
  obtain ⟨fd, F⟩ := T.def_ d_is_value (List.mem_of_getElem? (i := 1) rfl)
  have G_is_integer := ok_is_integer (P := P) (w := w) (base := base) T
  refine mkR F sc_is_value (fun _ _ _ _ _ _ us hl => match us, hl with | [_], _ => rfl) (fun vs H Q E h => ?_) (fun cdv A outer s H vs Q E hr h => ?_)
  · obtain ⟨v, d, rfl, _⟩ := h
    rfl
  obtain ⟨v, d, rfl, hd, q⟩ := h
  refine ⟨_, pss_one (ps_ret (pe_and (pcall G_is_integer hr (T.glo "is_integer" (by decide +kernel)) (pa_cons (pv 0) pa_nil)) (pe_one (pe_chain op_le op_le (pe_un un_neg (pe_gint (T.int ("LIMIT", 1000000000000000000000000000000000000000000000000000000000000) (by decide +kernel)))) (pv 0) (pe_gint (T.int ("LIMIT", 1000000000000000000000000000000000000000000000000000000000000) (by decide +kernel))))))), ?_⟩
  walk_at "wp"
  refine ⟨v, d, rfl, hd, fun H' sm => ?_⟩
  have q := q H' sm
  walk_at "wp"
  cases hd with
  | int i =>
    refine iteT ?_
    have e : isValD (.int i) = (decide (-limit ≤ i) && decide (i ≤ limit)) := rfl
    rw [e] at q
    refine ⟨i, rfl, ?_⟩
    refine ite2 (fun c => ⟨i, rfl, ?_⟩) (fun c => ?_)
    · rw [show decide (-limit ≤ i) = true from c] at q
      exact q
    · rw [show decide (-limit ≤ i) = false from Bool.eq_false_iff.mpr c] at q
      exact q
  | _ => exact q
theorem ok_is_name (T : Top K mg w)  : FnR P w K mg base CX0 1 (He.ga K "is_name") (spD1 K isNameD) := by
  obtain ⟨fd, F⟩ := T.def_ d_is_name (List.mem_of_getElem? (i := 2) rfl)
  refine mkR F sc_is_name (fun _ _ _ _ _ _ us hl => match us, hl with | [_], _ => rfl) (fun vs H Q E h => ?_) (fun cdv A outer s H vs Q E hr h => ?_)
  · obtain ⟨v, d, rfl, _⟩ := h
    rfl
  obtain ⟨v, d, rfl, hd, q⟩ := h
  refine ⟨_, pss_cons (ps_if (PW.pt (pw_or (pt_not (pt_val (pe_callB call_isi (by rfl) (T.free "isinstance" (by decide +kernel)) (by decide +kernel) (pa_cons (pv 0) (pa_cons (pe_bltn (v := .ty "str") (u := .type "str") (by rfl) (T.free "str" (by decide +kernel)) (by decide +kernel) rfl) pa_nil))))) (pw_or1 (pt_not (pt_chain op_le op_le pe_int (pe_callB call_len (by rfl) (T.free "len" (by decide +kernel)) (by decide +kernel) (pa_cons (pv 0) pa_nil)) (pe_gint (T.int ("MOST_LETTERS", 8) (by decide +kernel)))))))) (pss_one (ps_ret pe_bl)) pss_nil)
    (pss_one (ps_ret (pe_callB (cr_all rfl) (by rfl) (T.free "all" (by decide +kernel)) (by decide +kernel) (pa_cons (pe_lc (own := [("letter", 1)]) (g := (gName 1)) (tt := tYes) rfl sc_is_name.nd (pi_str (pv 0)) (blkOk_by (own := [("letter", 1)]) (N := ["value", "letter"]) (sc := defScope s_is_name) (by decide +kernel)) (fun _ _ _ _ _ => (pg_name (i := 1) sc_is_name.nd rfl (by first | exact Or.inl rfl | exact Or.inr rfl))) (fun _ _ _ _ _ => pts_nil) (fun _ _ _ _ _ => (pe_cmpR (op_in_sign) (pv 1) (pe_gstr (T.str ("LETTERS", "abcdefghijklmnopqrstuvwxyz") (by decide +kernel))) rfl))) pa_nil)))), ?_⟩
  walk_at "st"
  refine isi_ask hd.dp (kit_str _) ?_
  walk_at "wp"
  cases hd with
  | str x hx =>
    have hx' : x.length ≤ sizeLine := Nat.le_trans hx (by decide)
    rw [isi_str]
    refine iteF ⟨_, ⟨hx', rfl⟩, ?_⟩
    have e : isNameD (.str x) = (decide ((1 : Int) ≤ (x.length : Nat)) && decide (((x.length : Nat) : Int) ≤ 8) && x.cps.toList.all fun c => decide (c ∈ letters.cps.toList)) := rfl
    refine ite2 (fun c1 => ?_) (fun c1 => ?_)
    · refine ite2 (fun c2 => ?_) (fun c2 => ?_)
      · have c2' : decide (((x.length : Nat) : Int) ≤ 8) = false := by simpa using c2
        have q := q H (.refl H)
        rw [e, c1, c2'] at q
        exact q
      · have c2' : decide (((x.length : Nat) : Int) ≤ 8) = true := by simpa using c2
        have hz : x.cps.size < sizeLine := Nat.lt_of_le_of_lt hx (by decide)
        refine ⟨_, rfl, x, rfl, fun D nD => lc_it walk_str (LcP H D fun i acc _ => acc = (x.cps.toList.take i).map fun c => V.bl (decide (c ∈ letters.cps.toList))) (.start nD rfl) (fun _ _ _ _ => trivial) ?_ ?_⟩
        · rintro i y H1 H2 hi ⟨acc, sm, hD, hl, hR⟩ ⟨rfl, c, hc, rfl⟩
          walk_at "wp"
          refine ⟨c, rfl, acc, hD, by omega, .step nD sm hl ?_⟩
          have hc' : x.cps.toList[i]? = some c := by simpa using hc
          rw [hR, List.take_add_one, hc']
          simp [letters]
        · rintro H1 ⟨acc, sm, hD, hl, hR⟩
          have q := q H1 sm
          rw [e, c1, c2'] at q
          refine ⟨D, x.cps.toList.map fun c => decide (c ∈ letters.cps.toList), rfl, .of (by rw [hD, hR, List.take_of_length_le (by simp), List.map_map]; rfl), ?_⟩
          simpa using q
    · have q := q H (.refl H)
      rw [e, Bool.eq_false_iff.mpr c1] at q
      exact q
  | _ =>
    rw [isi_strE]
    exact q H (.refl H)
def spNest (K : PySem.W.Frag) (n : Nat) : Sp := fun vs H Q _ => ∃ v d, vs = [v, .int (n : Nat)] ∧ Dt K H v d ∧ 1 ≤ n ∧ ∀ H', Same H H' → Q (.bl (nestedB n d)) H'
theorem st_is_nested (T : Top K mg w) {n : Nat} (G_is_nested : FnR P w K mg base CX0 (n + 2) (He.ga K "is_nested") (spNest K n)) : FnR P w K mg base CX0 (n + 1 + 2) (He.ga K "is_nested") (spNest K (n + 1)) := by
  obtain ⟨fd, F⟩ := T.def_ d_is_nested (List.mem_of_getElem? (i := 3) rfl)
  have G_is_value := ok_is_value (P := P) (w := w) (base := base) T
  have G_is_name := ok_is_name (P := P) (w := w) (base := base) T
  refine mkR F sc_is_nested (fun _ _ _ _ _ _ us hl => match us, hl with | [_, _], _ => rfl) (fun vs H Q E h => ?_) (fun cdv A outer s H vs Q E hr h => ?_)
  · obtain ⟨v, d, rfl, _⟩ := h
    rfl
  obtain ⟨v, d, rfl, hd, _, q⟩ := h
  refine ⟨_, pss_cons (ps_if (PW.pt (pw_or (pt_val (pcall G_is_value hr (T.glo "is_value" (by decide +kernel)) (pa_cons (pv 0) pa_nil))) (pw_or1 (pt_val (pcall G_is_name hr (T.glo "is_name" (by decide +kernel)) (pa_cons (pv 0) pa_nil)))))) (pss_one (ps_ret pe_bl)) pss_nil)
    (pss_cons (ps_if (PW.pt (pw_or (pt_not (pt_val (pe_callB call_isi (by rfl) (T.free "isinstance" (by decide +kernel)) (by decide +kernel) (pa_cons (pv 0) (pa_cons (pe_bltn (v := .ty "tuple") (u := .type "tuple") (by rfl) (T.free "tuple" (by decide +kernel)) (by decide +kernel) rfl) pa_nil))))) (pw_or (pt_cmpR (op_ne) (pe_callB call_len (by rfl) (T.free "len" (by decide +kernel)) (by decide +kernel) (pa_cons (pv 0) pa_nil)) pe_int (nomark _)) (pw_or1 (pt_cmpR (op_eq) (pv 1) pe_int (nomark _)))))) (pss_one (ps_ret pe_bl)) pss_nil)
    (pss_cons (ps_if (PW.pt (pw_or (pt_not (pt_val (pe_callB call_isi (by rfl) (T.free "isinstance" (by decide +kernel)) (by decide +kernel) (pa_cons (pe_ix ix_tup (pv 0) pe_int (fun _ _ => rfl)) (pa_cons (pe_bltn (v := .ty "str") (u := .type "str") (by rfl) (T.free "str" (by decide +kernel)) (by decide +kernel) rfl) pa_nil))))) (pw_or1 (pt_cmpR (op_notIn_seq) (pe_ix ix_tup (pv 0) pe_int (fun _ _ => rfl)) (pe_gref (T.ref "OPERATORS" (by decide +kernel))) rfl)))) (pss_one (ps_ret pe_bl)) pss_nil)
    (pss_one (ps_ret (pe_and (pcall G_is_nested hr (T.glo "is_nested" (by decide +kernel)) (pa_cons (pe_ix ix_tup (pv 0) pe_int (fun _ _ => rfl)) (pa_cons (pe_op op_sub (pv 1) pe_int) pa_nil))) (pe_one (pcall G_is_nested hr (T.glo "is_nested" (by decide +kernel)) (pa_cons (pe_ix ix_tup (pv 0) pe_int (fun _ _ => rfl)) (pa_cons (pe_op op_sub (pv 1) pe_int) pa_nil))))))))), ?_⟩
  walk_at "st"
  refine ⟨v, d, rfl, hd, fun H1 s1 => ⟨_, rfl, ?_⟩⟩
  have hd1 := hd.keep (tups_of s1)
  have e : nestedB (n + 1) d = (isValD d || isNameD d || opD (nestedB n) n d) := rfl
  refine ite2 (fun c1 => ?_) (fun c1 => ?_)
  · rw [e, c1] at q
    exact q H1 s1
  refine ⟨v, d, rfl, hd1, fun H2 s2 => ⟨_, rfl, ?_⟩⟩
  have hd2 := hd1.keep (tups_of s2)
  have s12 := s1.trans s2
  refine ite2 (fun c2 => ?_) (fun c2 => ?_)
  · rw [e, c2, Bool.or_true] at q
    exact q H2 s12
  rw [e, Bool.eq_false_iff.mpr c1, Bool.eq_false_iff.mpr c2] at q
  walk_at "st"
  refine isi_ask hd2.dp (kit_tuple _) ?_
  walk_at "wp"
  cases hd2 with
  | @tup a xs ds hT hA =>
    rw [show isiB (tyD (.tuple ds)) "tuple" = true by rw [isi_tupleE]; rfl]
    refine iteF ⟨_, .inr ⟨_, hT, rfl⟩, rfl, ?_⟩
    have hl := dta_len hA
    have F : n = 0 ∨ ds.length ≠ 3 → Q (.bl false) H2 := fun z => by
      have e0 : opD (nestedB n) n (.tuple ds) = false := by
        rcases z with rfl | z
        · exact opD_zero
        · exact opD_len z
      rw [e0] at q
      exact q H2 s12
    refine ite2 (fun c3 => ?_) (fun c3 => ?_)
    · refine F (.inr fun z => ?_)
      rw [hl, z] at c3
      simp at c3
    · have l3 : ds.length = 3 := by
        have := Bool.eq_false_iff.mpr c3
        simp at this
        omega
      refine ⟨rfl, ite2 (fun c4 => ?_) (fun c4 => ?_)⟩
      · refine F (.inl ?_)
        have := of_decide_eq_true c4
        injection this with z
        omega
      · have n0 : n ≠ 0 := fun z => by
          rw [z] at c4
          exact c4 (by decide)
        obtain ⟨a0, a1, a2, rfl⟩ : ∃ a b c, ds = [a, b, c] := by
          match ds, l3 with
          | [a, b, c], _ => exact ⟨a, b, c, rfl⟩
        obtain ⟨v0, h0, g0⟩ := dta_get (i := 0) hA rfl
        obtain ⟨v1, h1, g1⟩ := dta_get (i := 1) hA rfl
        obtain ⟨v2, h2, g2⟩ := dta_get (i := 2) hA rfl
        walk_at "st"
        refine ixT_at 0 hT h0 ?_
        refine isi_ask g0.dp (kit_str _) ?_
        walk_at "wp"
        refine ite2 (fun c5 => ?_) (fun c5 => ?_)
        · have e0 : opD (nestedB n) n (.tuple [a0, a1, a2]) = false := opD_nostr fun z => by
            rw [isi_strE] at c5
            have c7 : (tyD a0 == "str") = false := by simpa using c5
            exact absurd z (beq_eq_false_iff_ne.mp c7)
          rw [e0] at q
          exact q H2 s12
        cases g0 with
        | str o ho =>
          refine ixT_at 0 hT h0 ⟨_, .inr (T.tup ("OPERATORS", ops) (.head _) H2), rfl, rfl, ?_⟩
          have e0 : opD (nestedB n) n (.tuple [.str o, a1, a2]) = (n != 0 && ops.contains o && nestedB n a1 && nestedB n a2) := rfl
          have e1 : inV (V.str o) (ops.map V.str) = ops.contains o := in_strs o ops
          rw [show ("OPERATORS", ops).2 = ops from rfl, e1]
          rw [e0] at q
          refine ite2 (fun c6 => ?_) (fun c6 => ?_)
          · have c6' : ops.contains o = false := by simpa using c6
            rw [c6', Bool.and_false] at q
            exact q H2 s12
          · have c6' : ops.contains o = true := by simpa using c6
            have n0' : (n != 0) = true := by simpa using n0
            rw [c6', n0'] at q
            have en : (V.int (↑(n + 1) - 1)) = V.int (n : Nat) := by congr 1; omega
            refine ixT_at 1 hT h1 ?_
            rw [en]
            refine ⟨v1, a1, rfl, g1, Nat.pos_of_ne_zero n0, fun H3 s3 => ⟨_, rfl, ?_⟩⟩
            have t3 := tups_of s3
            refine ite2 (fun c7 => ?_) (fun c7 => ?_)
            · rw [c7] at q
              exact ixT_at 2 (t3.sqT hT) h2 ⟨v2, a2, rfl, g2.keep t3, Nat.pos_of_ne_zero n0, fun H4 s4 => q H4 ((s12.trans s3).trans s4)⟩
            · rw [Bool.eq_false_iff.mpr c7] at q
              exact q H3 (s12.trans s3)
        | _ =>
          rw [isi_strE] at c5
          exact (c5 rfl).elim
  | _ =>
    rw [isi_tupleE]
    exact q H2 s12
theorem ok_is_nested (T : Top K mg w) : ∀ n : Nat, FnR P w K mg base CX0 (n + 2) (He.ga K "is_nested") (spNest K n)
  | 0 => fun A outer s H us vs Q E _ _ _ h => by
    obtain ⟨v, d, _, _, h, _⟩ := h
    cases h
  | n + 1 => st_is_nested T (ok_is_nested T n)
theorem ok_is_expression (T : Top K mg w) : FnR P w K mg base CX0 9 (He.ga K "is_expression") (spD1 K (nestedB 6)) := by
  obtain ⟨fd, F⟩ := T.def_ d_is_expression (List.mem_of_getElem? (i := 4) rfl)
  have G_is_nested := ok_is_nested (P := P) (w := w) (base := base) T 6
  refine mkR F sc_is_expression (fun _ _ _ _ _ _ us hl => match us, hl with | [_], _ => rfl) (fun vs H Q E h => ?_) (fun cdv A outer s H vs Q E hr h => ?_)
  · obtain ⟨v, d, rfl, _⟩ := h
    rfl
  obtain ⟨v, d, rfl, hd, q⟩ := h
  refine ⟨_, pss_one (ps_ret (pcall G_is_nested hr (T.glo "is_nested" (by decide +kernel)) (pa_cons (pv 0) (pa_cons (pe_gint (T.int ("MOST_LEVELS", 6) (by decide +kernel))) pa_nil)))), ?_⟩
  walk_at "wp"
  exact ⟨v, d, rfl, hd, by decide, q⟩
end
end K91
set_option Elab.async false
set_option linter.all false
set_option maxRecDepth 100000
set_option maxHeartbeats 4000000
namespace K91
open PySem PySem.Spec PyProof.Rows L2
local macro_rules | `(tactic| walk_at "wp") => `(tactic| simp only [cxK, cxw, cxK', cxw', start1, start2, start3, start4, start5, tRet, tRetN, tAsg, gName, gTup, gCons, gNil, gSub, tDrop, tNext, tIfS, tIf, tVar, tC, tAndV, tOrV, tNotV, tAnd, tOr, tNot, tTest, tB, tCB, tCons, tNil, tOp, tUn, rI0, rI, rU, rEq, rNe, rIn, tChain, tFld, sFld, tSl, tPart, tNoPart, tTup, tLst, tCallR, tMethR, tMethO, tBM, tBM0, tM0, tM1, tDGet, tDIn, tDNotIn, tDNewK, tCmp, t2I, tIsN, tNotN, tYes, wipe, List.map_cons, List.map_nil,
  List.length_cons, List.length_nil, Nat.reduceAdd, Nat.reduceSub, List.replicate_succ, List.replicate_zero, if_true, if_false, Bool.not_true, Bool.not_false, Bool.false_eq_true, reduceIte,
  List.set_cons_zero, List.set_cons_succ, List.getElem?_cons_zero, List.getElem?_cons_succ, Option.some.injEq, exists_eq_left', exists_eq_left, V.int.injEq, V.str.injEq, V.bl.injEq, V.ref.injEq, V.ty.injEq, List.cons.injEq, and_true, true_and, and_assoc, exists_and_left, List.nil_append, List.cons_append, List.append_nil])
local macro_rules | `(tactic| walk_at "st") => `(tactic| (refine sq ?_; walk_at "wp"))
section
variable {P : Program} {w : World} {K : PySem.W.Frag} {mg : Str → Option Value} {base : Heap}
/-- a comprehension of truth values over a tuple of data, each by a def that tells f -/
theorem lc_tests {K : PySem.W.Frag} {H : Hp} {D a : Addr} {xs : List V} {ds : List PyData} {f : PyData → Bool} (nD : H D = none) (hT : SqT K H a xs) (hA : DtAll K H xs ds) (hz : ds.length < sizeLine) {i : Nat} {y : V} {H1 H2 : Hp} {Nx : Hp → Prop} (hi : i < xs.length)
    (hP : LcP H D (fun i acc _ => acc = (ds.take i).map fun d => V.bl (f d)) i H1) (hy : YAt xs i H1 y H2) (hn : ∀ H3 acc, H3 D = some (.lst acc) → acc.length < sizeLine → (LcP H D (fun i acc _ => acc = (ds.take i).map fun d => V.bl (f d)) (i + 1) (upd H3 D (.lst (acc ++ [V.bl (f (ds.getD i .none))])))) → Nx (upd H3 D (.lst (acc ++ [V.bl (f (ds.getD i .none))])))) :
    ∃ d, Dt K H2 y d ∧ ∀ H', Same H2 H' → ∃ acc, H' D = some (.lst acc) ∧ acc.length < sizeLine ∧ Nx (upd H' D (.lst (acc ++ [V.bl (f d)]))) := by
  obtain ⟨rfl, hx⟩ := hy
  obtain ⟨acc, sm, hD, hl, hR⟩ := hP
  obtain ⟨d, hd, g⟩ := dta_of hA hx
  have hl2 := dta_len hA
  refine ⟨d, g.keep (tups_of sm), fun H' s' => ⟨acc, s' _ _ hD, by omega, ?_⟩⟩
  have e : ds.getD i .none = d := by rw [List.getD_eq_getElem?_getD, hd]; rfl
  have := hn H' acc (s' _ _ hD) (by omega) (.step nD (sm.trans s') hl (by rw [hR, List.take_add_one, hd, e]; simp))
  rw [e] at this
  exact this
def spPart (K : PySem.W.Frag) : Sp := fun vs H Q _ => ∃ k v d, vs = [.str k, v] ∧ Dt K H v d ∧ ∀ H', Same H H' → Q (.bl (partB k d)) H'
theorem ok_is_part (T : Top K mg w)  : FnR P w K mg base CX0 10 (He.ga K "is_part") (spPart K) := by
  obtain ⟨fd, F⟩ := T.def_ d_is_part (List.mem_of_getElem? (i := 5) rfl)
  refine mkR F sc_is_part (fun _ _ _ _ _ _ us hl => match us, hl with | [_, _], _ => rfl) (fun vs H Q E h => ?_) (fun cdv A outer s H vs Q E hr h => ?_)
  · obtain ⟨k, v, d, rfl, _⟩ := h; rfl
  obtain ⟨k, v, d, rfl, hd, q⟩ := h
  have G_is_expression := ok_is_expression (P := P) (w := w) (base := base) T
  have G_is_integer := ok_is_integer (P := P) (w := w) (base := base) T
  have G_is_name := ok_is_name (P := P) (w := w) (base := base) T
  refine ⟨_, pss_cons (ps_if (pt_cmpR (op_eq) (pv 0) pe_str (nomark _)) (pss_one (ps_ret (pcall G_is_name hr (T.glo "is_name" (by decide +kernel)) (pa_cons (pv 1) pa_nil)))) pss_nil)
    (pss_cons (ps_if (pt_cmpR (op_eq) (pv 0) pe_str (nomark _)) (pss_one (ps_ret (pcall G_is_expression hr (T.glo "is_expression" (by decide +kernel)) (pa_cons (pv 1) pa_nil)))) pss_nil)
    (pss_cons (ps_if (pt_cmpR (op_eq) (pv 0) pe_str (nomark _)) (pss_one (ps_ret (pe_and (pcall G_is_integer hr (T.glo "is_integer" (by decide +kernel)) (pa_cons (pv 1) pa_nil)) (pe_one (pe_cmpR (op_ge) (pv 1) pe_int (nomark _)))))) pss_nil)
    (pss_cons (ps_if (pt_cmpR (op_eq) (pv 0) pe_str (nomark _)) (pss_one (ps_ret (pe_and (pe_callB call_isi (by rfl) (T.free "isinstance" (by decide +kernel)) (by decide +kernel) (pa_cons (pv 1) (pa_cons (pe_bltn (v := .ty "tuple") (u := .type "tuple") (by rfl) (T.free "tuple" (by decide +kernel)) (by decide +kernel) rfl) pa_nil))) (pe_and (pe_cmpR (op_le) (pe_callB call_len (by rfl) (T.free "len" (by decide +kernel)) (by decide +kernel) (pa_cons (pv 1) pa_nil)) (pe_gint (T.int ("MOST_PARAMETERS", 5) (by decide +kernel))) (nomark _)) (pe_one (pe_callB (cr_all rfl) (by rfl) (T.free "all" (by decide +kernel)) (by decide +kernel) (pa_cons (pe_lc (own := [("e", 2)]) (g := (gName 2)) (tt := tYes) rfl sc_is_part.nd (pi_tup (pv 1)) (blkOk_by (own := [("e", 2)]) (N := ["kind", "value", "e"]) (sc := defScope s_is_part) (by decide +kernel)) (fun _ _ _ _ _ => (pg_name (i := 2) sc_is_part.nd rfl (by first | exact Or.inl rfl | exact Or.inr rfl))) (fun _ _ _ _ _ => pts_nil) (fun _ _ _ _ _ => (pcall G_is_expression hr (T.glo "is_expression" (by decide +kernel)) (pa_cons (pv 2) pa_nil)))) pa_nil))))))) pss_nil)
    (pss_one (ps_ret pe_bl))))), ?_⟩
  walk_at "st"
  unfold partB at q
  refine ⟨rfl, ite2 (fun c => ?_) (fun c => ?_)⟩
  · have c' : k = "name" := of_decide_eq_true c
    rw [if_pos c'] at q
    exact ⟨v, d, rfl, hd, q⟩
  have c' : ¬ k = "name" := fun z => c (decide_eq_true z)
  rw [if_neg c'] at q
  walk_at "st"
  refine ⟨rfl, ite2 (fun c => ?_) (fun c => ?_)⟩
  · have c' : k = "expression" := of_decide_eq_true c
    rw [if_pos c'] at q
    exact ⟨v, d, rfl, hd, q⟩
  have c' : ¬ k = "expression" := fun z => c (decide_eq_true z)
  rw [if_neg c'] at q
  walk_at "st"
  refine ⟨rfl, ite2 (fun c => ?_) (fun c => ?_)⟩
  · have c' : k = "jump" := of_decide_eq_true c
    rw [if_pos c'] at q
    refine ⟨v, d, rfl, hd, fun H1 s1 => ⟨_, rfl, ?_⟩⟩
    cases hd with
    | int i => exact iteT ⟨i, rfl, q H1 s1⟩
    | _ => exact q H1 s1
  have c' : ¬ k = "jump" := fun z => c (decide_eq_true z)
  rw [if_neg c'] at q
  walk_at "st"
  refine ⟨rfl, ite2 (fun c => ?_) (fun c => ?_)⟩
  · have c' : k = "args" := of_decide_eq_true c
    rw [if_pos c'] at q
    refine isi_ask hd.dp (kit_tuple _) ⟨_, rfl, ?_⟩
    cases hd with
    | @tup a xs ds hT hA =>
      rw [show isiB (tyD (.tuple ds)) "tuple" = true by rw [isi_tupleE]; rfl]
      refine iteT ?_
      refine ⟨_, .inr ⟨_, hT, rfl⟩, ?_⟩
      have hl := dta_len hA
      refine ite2 (fun c5 => ?_) (fun c5 => ?_)
      · have c6 : ds.length ≤ 5 := by
          have := of_decide_eq_true c5
          omega
        refine ⟨_, rfl, a, rfl, ⟨_, hT⟩, fun D nD => lc_it walk_tup (LcP H D fun i acc _ => acc = (ds.take i).map fun d => V.bl (nestedB 6 d)) (.start nD rfl) (fun i H1 _ ⟨_, sm, _⟩ => (tups_of sm).sqT hT) ?_ ?_⟩
        · intro i y H1 H2 hi hP hy
          walk_at "wp"
          obtain ⟨d, hd, hk⟩ := lc_tests nD hT hA (Nat.lt_of_le_of_lt c6 (by decide)) hi hP hy (fun _ _ _ _ z => z)
          exact ⟨y, d, rfl, hd, hk⟩
        · rintro H1 ⟨acc, sm, hD, _, hR⟩
          refine ⟨D, ds.map (nestedB 6), rfl, .of (by rw [hD, hR, List.take_of_length_le (by omega), List.map_map]; rfl), ?_⟩
          have q := q H1 sm
          have e : argsB (.tuple ds) = (decide (((ds.length : Nat) : Int) ≤ 5) && ds.all (nestedB 6)) := rfl
          rw [e, ← hl, c5] at q
          simpa using q
      · have q := q H (.refl H)
        have e : argsB (.tuple ds) = (decide (((ds.length : Nat) : Int) ≤ 5) && ds.all (nestedB 6)) := rfl
        rw [e, ← hl, Bool.eq_false_iff.mpr c5] at q
        exact q
    | _ =>
      rw [isi_tupleE]
      exact q H (.refl H)
  have c' : ¬ k = "args" := fun z => c (decide_eq_true z)
  rw [if_neg c'] at q
  exact q H (.refl H)
theorem ok_is_body (T : Top K mg w)  : FnR P w K mg base CX0 1 (He.ga K "is_body") (spD1 K bodyB) := by
  obtain ⟨fd, F⟩ := T.def_ d_is_body (List.mem_of_getElem? (i := 7) rfl)
  refine mkR F sc_is_body (fun _ _ _ _ _ _ us hl => match us, hl with | [_], _ => rfl) (fun vs H Q E h => ?_) (fun cdv A outer s H vs Q E hr h => ?_)
  · obtain ⟨v, d, rfl, _⟩ := h; rfl
  obtain ⟨v, d, rfl, hd, q⟩ := h
  refine ⟨_, pss_one (ps_ret (pe_and (pe_callB call_isi (by rfl) (T.free "isinstance" (by decide +kernel)) (by decide +kernel) (pa_cons (pv 0) (pa_cons (pe_bltn (v := .ty "tuple") (u := .type "tuple") (by rfl) (T.free "tuple" (by decide +kernel)) (by decide +kernel) rfl) pa_nil))) (pe_one (pe_chain op_le op_le pe_int (pe_callB call_len (by rfl) (T.free "len" (by decide +kernel)) (by decide +kernel) (pa_cons (pv 0) pa_nil)) (pe_gint (T.int ("MOST_BODY", 20) (by decide +kernel))))))), ?_⟩
  walk_at "wp"
  have q := q H (.refl H)
  refine isi_ask hd.dp (kit_tuple _) ⟨_, rfl, ?_⟩
  cases hd with
  | @tup a xs ds hT hA =>
    rw [show isiB (tyD (.tuple ds)) "tuple" = true by rw [isi_tupleE]; rfl]
    refine iteT ?_
    have hl := dta_len hA
    refine ⟨_, .inr ⟨_, hT, rfl⟩, ?_⟩
    have e : bodyB (.tuple ds) = (decide ((1 : Int) ≤ (ds.length : Nat)) && decide (((ds.length : Nat) : Int) ≤ 20)) := rfl
    rw [e, ← hl] at q
    refine ite2 (fun c => ?_) (fun c => ?_)
    · rw [c] at q
      exact q
    · rw [Bool.eq_false_iff.mpr c] at q
      exact q
  | _ =>
    rw [isi_tupleE]
    exact q
end
end K91
set_option Elab.async false
set_option linter.all false
set_option maxRecDepth 100000
set_option maxHeartbeats 4000000
namespace K91
open PySem PySem.Spec PyProof.Rows L2
local macro_rules | `(tactic| walk_at "wp") => `(tactic| try simp only [cxK, cxw, cxK', cxw', start1, start2, start3, start4, start5, tRet, tRetN, tAsg, gName, gTup, gCons, gNil, gSub, tDrop, tNext, tIfS, tIf, tVar, tC, tAndV, tOrV, tNotV, tAnd, tOr, tNot, tTest, tB, tCB, tCons, tNil, tOp, tUn, rI0, rI, rU, rEq, rNe, rIn, tChain, tFld, sFld, tSl, tPart, tNoPart, tTup, tLst, tCallR, tMethR, tMethO, tBM, tBM0, tM0, tM1, tDGet, tDIn, tDNotIn, tDNewK, tCmp, t2I, tIsN, tNotN, tYes, tLc_eq, tFor_eq, RZ.iZipA, iStr, iTup, iList, iEnum, iEnumT, tDGet1, tDGet2, tDisp, tPairs, wipe, List.map_cons, List.map_nil,
  List.length_cons, List.length_nil, Nat.reduceAdd, Nat.reduceSub, List.replicate_succ, List.replicate_zero, if_true, if_false, Bool.not_true, Bool.not_false, Bool.false_eq_true, reduceIte,
  List.set_cons_zero, List.set_cons_succ, List.getElem?_cons_zero, List.getElem?_cons_succ, Option.some.injEq, exists_eq_left', exists_eq_left, V.int.injEq, V.str.injEq, V.bl.injEq, V.ref.injEq, V.ty.injEq, List.cons.injEq, and_true, true_and, and_assoc, exists_and_left, List.nil_append, List.cons_append, List.append_nil])
local macro_rules | `(tactic| walk_at "st") => `(tactic| (refine sq ?_; walk_at "wp"))
section
variable {P : Program} {w : World} {K : PySem.W.Frag} {mg : Str → Option Value} {base : Heap}
theorem shapeOf_mem {w : Str} {ks : List Str} : ∀ {l : List (Str × List Str)}, l.lookup w = some ks → (w, ks) ∈ l
  | [], h => by cases h
  | (a, b) :: r, h => by
    rw [List.lookup_cons] at h
    cases e : w == a with
    | true =>
      rw [e] at h
      have e1 : w = a := beq_iff_eq.mp e
      cases h
      rw [e1]
      exact .head _
    | false =>
      rw [e] at h
      exact .tail _ (shapeOf_mem h)
theorem shape_len {w : Str} {ks : List Str} (h : shapeOf w = some ks) : ks.length ≤ 4 := by
  have z : ∀ q ∈ shapes, q.2.length ≤ 4 := by decide +kernel
  exact z _ (shapeOf_mem h)
/-- SHAPES[w] -/
theorem shp_ask (T : Top K mg w) {H : Hp} {x : Str} {ks : List Str} {Q : VK} (h : shapeOf x = some ks) (q : ∀ t, SqT K H t (ks.map V.str) → (∀ H', SqT K H' t (ks.map V.str)) → Q (.ref t) H) : rIxD K w (.ref (He.ga K "SHAPES")) (.str x) H Q := by
  obtain ⟨es, n, D⟩ := T.shp
  obtain ⟨t, e, hT⟩ := T.shpV (x, ks) (shapeOf_mem h)
  exact ⟨_, x, .ref t, rfl, rfl, ⟨es, n, _, D.1, D.2, e, rfl⟩, q t (hT H) hT⟩
theorem cut_tail (x : V) (vs : List V) : cutV (x :: vs) (some 1) none = vs := by
  have h1 : HT.sIx (x :: vs).length 0 (some 1) = 1 := by
    rw [show (1 : Int) = ((1 : Nat) : Int) from rfl, HT.sIx_nat]
    simp
  unfold cutV
  rw [h1, HT.sIx_none]
  simp
theorem sl_tail {K : PySem.W.Frag} {H : Hp} {a : Addr} {x : V} {vs : List V} {Q : VK} (hT : SqT K H a (x :: vs)) (q : ∀ p, H p = none → Q (.ref p) (upd H p (.tup vs))) : rSlT K (.ref a) (some 1) none H Q := by
  have h1 : HT.sIx (x :: vs).length 0 (some 1) = 1 := by
    rw [show (1 : Int) = ((1 : Nat) : Int) from rfl, HT.sIx_nat]
    simp
  refine ⟨a, _, rfl, hT, fun z => ?_, fun p np => ?_⟩
  · rw [h1] at z
    exact absurd z.1 (by decide)
  · rw [cut_tail]
    exact q p np
/-- the pair (kind, part) at a new tuple, in a block -/
theorem pair_ask {K : PySem.W.Frag} {xs ys : Nat → Option V} {i : Nat} {H H' : Hp} {v : V} (h : YPair xs ys i H v H') : ∃ T x y, v = .ref T ∧ xs i = some x ∧ ys i = some y ∧ Same H H' ∧ SqT K H' T [x, y] := by
  obtain ⟨T, x, y, rfl, hn, rfl, h1, h2⟩ := h
  exact ⟨T, x, y, rfl, h1, h2, same_new hn _, .inl (.inl upd_same)⟩
/-- a comprehension's pairs of kinds and parts -/
def spBodies (K : PySem.W.Frag) : Sp := fun vs H Q _ => ∃ v wd ps ks, vs = [v] ∧ Dt K H v (.tuple (.str wd :: ps)) ∧ shapeOf wd = some ks ∧ ps.length = ks.length ∧
  ∀ H' l us, Same H H' → H l = none → H' l = some (.lst us) → DtAll K H' us (bodiesL ks ps) → Q (.ref l) H'
theorem strs_get {ks : List Str} {i : Nat} {k : V} (h : (ks.map V.str)[i]? = some k) : ∃ kd, ks[i]? = some kd ∧ k = .str kd := by
  rw [List.getElem?_map] at h
  cases e : ks[i]? with
  | none => rw [e] at h; cases h
  | some x => rw [e] at h; exact ⟨x, rfl, (Option.some.inj h).symm⟩
theorem zip_take {α β : Type} : ∀ (n : Nat) (l : List α) (m : List β), (l.take n).zip (m.take n) = (l.zip m).take n
  | 0, _, _ => by simp
  | n + 1, [], _ => by simp
  | n + 1, a :: l, [] => by simp
  | n + 1, a :: l, b :: m => by simp [zip_take n l m]
theorem zip_get {α β : Type} {l : List α} {m : List β} {i : Nat} {a : α} {b : β} (h1 : l[i]? = some a) (h2 : m[i]? = some b) : (l.zip m)[i]? = some (a, b) := by
  rw [List.getElem?_zip_eq_some]
  exact ⟨h1, h2⟩
theorem bodies_step {ks : List Str} {ps : List PyData} {i : Nat} {kd : Str} {d : PyData} (h1 : ks[i]? = some kd) (h2 : ps[i]? = some d) : bodiesL (ks.take (i + 1)) (ps.take (i + 1)) = bodiesL (ks.take i) (ps.take i) ++ (if kd = ("body" : Str) then [d] else []) := by
  unfold bodiesL
  rw [zip_take, zip_take, List.take_add_one, zip_get h1 h2]
  by_cases c : kd = ("body" : Str)
  · rw [if_pos c]; simp [c]
  · rw [if_neg c]; simp [c]
theorem ok_bodies_of (T : Top K mg w)  : FnR P w K mg base CX0 1 (He.ga K "bodies_of") (spBodies K) := by
  obtain ⟨fd, F⟩ := T.def_ d_bodies_of (List.mem_of_getElem? (i := 8) rfl)
  refine mkR F sc_bodies_of (fun _ _ _ _ _ _ us hl => match us, hl with | [_], _ => rfl) (fun vs H Q E h => ?_) (fun cdv A outer s H vs Q E hr h => ?_)
  · obtain ⟨v, wd, ps, ks, rfl, _⟩ := h; rfl
  obtain ⟨v, wd, ps, ks, rfl, hd, hk, hl, q⟩ := h
  refine ⟨_, pss_one (ps_ret (pe_lc (own := [("kind", 1), ("part", 2)]) (g := (gTup K 2 (gCons (gName 1) (gCons (gName 2) gNil)))) rfl sc_bodies_of.nd (RZ.pi_zipA (by rfl) (T.free "zip" (by decide +kernel)) (pa_cons (pe_ix (r := rIxD K w) ix_kdict (pe_gref (T.ref "SHAPES" (by decide +kernel))) (pe_ix (r := rIxT K) ix_tup (pv 0) pe_int (fun _ _ => rfl)) (fun _ _ => rfl)) (pa_cons (pe_slice (r := rSlT K) sl_tup (pv 0) (po_some pe_int) po_none) pa_nil))) (blkOk_by (own := [("kind", 1), ("part", 2)]) (N := ["statement", "kind", "part"]) (sc := defScope s_bodies_of) (by decide +kernel)) (fun _ _ _ _ _ => (pg_tup (n := 2) rfl (pgs_cons (pg_name (i := 1) sc_bodies_of.nd rfl (by first | exact Or.inl rfl | exact Or.inr rfl)) (pgs_cons (pg_name (i := 2) sc_bodies_of.nd rfl (by first | exact Or.inl rfl | exact Or.inr rfl)) pgs_nil)))) (fun _ _ _ _ _ => (pts_one (pt_cmpR (op_eq) (pv 1) pe_str (nomark _)))) (fun _ _ _ _ _ => (pv 2)))), ?_⟩
  cases hd with
  | @tup a xs _ hT hA =>
    cases hA with
    | @cons v0 vs _ _ h0 hA =>
      cases h0 with
      | str _ hw =>
        have hvl := dta_len hA
        have kl := shape_len hk
        have zl := line_big
        walk_at "wp"
        refine ixT_at 0 hT rfl (shp_ask T hk fun t hS hS' => ?_)
        walk_at "wp"
        refine sl_tail hT fun p np => ?_
        walk_at "wp"
        have s0 : Same H (upd H p (.tup vs)) := same_new np _
        have hlen : (ks.map V.str).length = vs.length := by rw [List.length_map, hvl, hl]
        have hp : SqT K (upd H p (.tup vs)) p vs := .inl (.inl upd_same)
        refine ⟨_, _, .inr ⟨hS' _, hp, lcGo (walk_zipT (n := vs.length) (by omega)) (fun i acc H' => DtAll K H' acc (bodiesL (ks.take i) (ps.take i))) (fun _ _ => .nil) (fun H1 sm => ⟨hS' _, (tups_of sm).sqT hp⟩) ?_ ?_⟩⟩
        · rintro D i x acc H1 H2 nD hi sm hD hl2 hR hy
          obtain ⟨T', k, y, rfl, h1, h2, s2, hT'⟩ := pair_ask (K := K) hy
          walk_at "wp"
          obtain ⟨kd, hkd, rfl⟩ := strs_get h1
          obtain ⟨d, hd, gd⟩ := dta_of hA h2
          have e1 : bodiesL (ks.take (i + 1)) (ps.take (i + 1)) = bodiesL (ks.take i) (ps.take i) ++ (if kd = ("body" : Str) then [d] else []) := bodies_step hkd hd
          refine ⟨_, hT', rfl, _, _, rfl, _, _, rfl, rfl, rfl, ite2 (fun c => ?_) (fun c => ?_)⟩
          · have c' : kd = "body" := V.str.inj (of_decide_eq_true c)
            rw [if_pos c'] at e1
            refine ⟨acc, s2 _ _ hD, by omega, .step nD (sm.trans s2) hl2 ?_⟩
            rw [e1]
            have t2 := tups_lst (s2 _ _ hD) (.lst (acc ++ [y]))
            exact dta_app (hR.keep ((tups_of s2).trans t2)) (.cons (gd.keep ((tups_of s0).trans ((tups_of (sm.trans s2)).trans t2))) .nil)
          · have c' : ¬ kd = "body" := fun z => c (decide_eq_true (by rw [z]))
            rw [if_neg c', List.append_nil] at e1
            exact .skip (sm.trans s2) (s2 _ _ hD) hl2 (by rw [e1]; exact hR.keep (tups_of s2))
        · rintro D acc H1 nD sm hD hl2 hR
          rw [List.take_of_length_le (by omega), List.take_of_length_le (by omega)] at hR
          refine q H1 D acc (s0.trans sm) ?_ hD hR
          rw [upd_ne] at nD
          · exact nD
          · rintro rfl
            rw [upd_same] at nD
            cases nD
end
end K91
set_option Elab.async false
set_option linter.all false
set_option maxRecDepth 100000
set_option maxHeartbeats 4000000
namespace K91
open PySem PySem.Spec PyProof.Rows L2
local macro_rules | `(tactic| walk_at "wp") => `(tactic| try simp only [cxK, cxw, cxK', cxw', start1, start2, start3, start4, start5, tRet, tRetN, tAsg, gName, gTup, gCons, gNil, gSub, tDrop, tNext, tIfS, tIf, tVar, tC, tAndV, tOrV, tNotV, tAnd, tOr, tNot, tTest, tB, tCB, tCons, tNil, tOp, tUn, rI0, rI, rU, rEq, rNe, rIn, tChain, tFld, sFld, tSl, tPart, tNoPart, tTup, tLst, tCallR, tMethR, tMethO, tBM, tBM0, tM0, tM1, tDGet, tDIn, tDNotIn, tDNewK, tCmp, t2I, tIsN, tNotN, tYes, tLc_eq, tFor_eq, RZ.iZipA, iStr, iTup, iList, iEnum, iEnumT, tDGet1, tDGet2, tDisp, tPairs, wipe, List.map_cons, List.map_nil,
  List.length_cons, List.length_nil, Nat.reduceAdd, Nat.reduceSub, List.replicate_succ, List.replicate_zero, if_true, if_false, Bool.not_true, Bool.not_false, Bool.false_eq_true, reduceIte,
  List.set_cons_zero, List.set_cons_succ, List.getElem?_cons_zero, List.getElem?_cons_succ, Option.some.injEq, exists_eq_left', exists_eq_left, V.int.injEq, V.str.injEq, V.bl.injEq, V.ref.injEq, V.ty.injEq, List.cons.injEq, and_true, true_and, and_assoc, exists_and_left, List.nil_append, List.cons_append, List.append_nil])
local macro_rules | `(tactic| walk_at "st") => `(tactic| (refine sq ?_; walk_at "wp"))
section
variable {P : Program} {w : World} {K : PySem.W.Frag} {mg : Str → Option Value} {base : Heap}
theorem partsB_len {ks : List Str} {ps : List PyData} (h : partsB ks ps = true) : ps.length = ks.length := by
  unfold partsB at h
  simp at h
  exact h.1
theorem partsB_at {ks : List Str} {ps : List PyData} (h : partsB ks ps = true) {i : Nat} {k : Str} {d : PyData} (h1 : ks[i]? = some k) (h2 : ps[i]? = some d) : partB k d = true := by
  unfold partsB at h
  rw [Bool.and_eq_true] at h
  exact List.all_eq_true.mp h.2 (k, d) (List.mem_of_getElem? (zip_get h1 h2))
theorem shape_some (T : Top K mg w) {x : Str} {ks : List Str} (h : shapeOf x = some ks) : ∃ es n, KDict K w (He.ga K "SHAPES") es n ∧ ∃ t, PySem.W.nsIn K (He.ga K "SHAPES") x = some (some (.ref t)) := by
  obtain ⟨es, n, D⟩ := T.shp
  obtain ⟨t, e, _⟩ := T.shpV (x, ks) (shapeOf_mem h)
  exact ⟨es, n, D, t, e⟩
/-- a statement whose form is right -/
def spStmt (K : PySem.W.Frag) : Sp := fun vs H Q _ => ∃ v wd ps ks, vs = [v] ∧ Dt K H v (.tuple (.str wd :: ps)) ∧ shapeOf wd = some ks ∧ partsB ks ps = true ∧ ∀ H', Same H H' → Q (.bl true) H'
theorem ok_is_statement (T : Top K mg w)  : FnR P w K mg base CX0 11 (He.ga K "is_statement") (spStmt K) := by
  obtain ⟨fd, F⟩ := T.def_ d_is_statement (List.mem_of_getElem? (i := 6) rfl)
  refine mkR F sc_is_statement (fun _ _ _ _ _ _ us hl => match us, hl with | [_], _ => rfl) (fun vs H Q E h => ?_) (fun cdv A outer s H vs Q E hr h => ?_)
  · obtain ⟨v, wd, ps, ks, rfl, _⟩ := h; rfl
  obtain ⟨v, wd, ps, ks, rfl, hd, hk, hp, q⟩ := h
  obtain ⟨es, n, DS, t0, et0⟩ := shape_some T hk
  have G_is_part := ok_is_part (P := P) (w := w) (base := base) T
  refine ⟨_, pss_cons (ps_if (PW.pt (pw_or (pt_not (pt_val (pe_callB (r := rIsi K) call_isi (by rfl) (T.free "isinstance" (by decide +kernel)) (by decide +kernel) (pa_cons (pv 0) (pa_cons (pe_bltn (v := .ty "tuple") (u := .type "tuple") (by rfl) (T.free "tuple" (by decide +kernel)) (by decide +kernel) rfl) pa_nil))))) (pw_or (pt_cmpR (op_eq) (pe_callB (r := fun xs H Q => ∃ x n, xs = [x] ∧ LenV K x H n ∧ Q (.int n) H) call_len (by rfl) (T.free "len" (by decide +kernel)) (by decide +kernel) (pa_cons (pv 0) pa_nil)) pe_int (nomark _)) (pw_or (pt_not (pt_val (pe_callB (r := rIsi K) call_isi (by rfl) (T.free "isinstance" (by decide +kernel)) (by decide +kernel) (pa_cons (pe_ix (r := rIxT K) ix_tup (pv 0) pe_int (fun _ _ => rfl)) (pa_cons (pe_bltn (v := .ty "str") (u := .type "str") (by rfl) (T.free "str" (by decide +kernel)) (by decide +kernel) rfl) pa_nil))))) (pw_or1 (pt_cmpR (op_notIn_kd DS) (pe_ix (r := rIxT K) ix_tup (pv 0) pe_int (fun _ _ => rfl)) (pe_gref (T.ref "SHAPES" (by decide +kernel))) rfl)))))) (pss_one (ps_ret pe_bl)) pss_nil)
    (pss_cons (ps_set (i := 1) sc_is_statement.nd rfl (by first | exact Or.inl rfl | exact Or.inr rfl) (pe_ix (r := rIxD K w) ix_kdict (pe_gref (T.ref "SHAPES" (by decide +kernel))) (pe_ix (r := rIxT K) ix_tup (pv 0) pe_int (fun _ _ => rfl)) (fun _ _ => rfl)))
    (pss_one (ps_ret (pe_and (pe_cmpR (op_eq) (pe_callB (r := fun xs H Q => ∃ x n, xs = [x] ∧ LenV K x H n ∧ Q (.int n) H) call_len (by rfl) (T.free "len" (by decide +kernel)) (by decide +kernel) (pa_cons (pv 0) pa_nil)) (pe_op op_add (pe_callB (r := fun xs H Q => ∃ x n, xs = [x] ∧ LenV K x H n ∧ Q (.int n) H) call_len (by rfl) (T.free "len" (by decide +kernel)) (by decide +kernel) (pa_cons (pv 1) pa_nil)) pe_int) (nomark _)) (pe_one (pe_callB (r := rAll K) (cr_all rfl) (by rfl) (T.free "all" (by decide +kernel)) (by decide +kernel) (pa_cons (pe_lc (own := [("kind", 2), ("part", 3)]) (g := (gTup K 2 (gCons (gName 2) (gCons (gName 3) gNil)))) (tt := tYes) rfl sc_is_statement.nd (RZ.pi_zipA (by rfl) (T.free "zip" (by decide +kernel)) (pa_cons (pv 1) (pa_cons (pe_slice (r := rSlT K) sl_tup (pv 0) (po_some pe_int) po_none) pa_nil))) (blkOk_by (own := [("kind", 2), ("part", 3)]) (N := ["value", "shape", "kind", "part"]) (sc := defScope s_is_statement) (by decide +kernel)) (fun _ _ _ _ _ => (pg_tup (n := 2) rfl (pgs_cons (pg_name (i := 2) sc_is_statement.nd rfl (by first | exact Or.inl rfl | exact Or.inr rfl)) (pgs_cons (pg_name (i := 3) sc_is_statement.nd rfl (by first | exact Or.inl rfl | exact Or.inr rfl)) pgs_nil)))) (fun _ _ _ _ _ => pts_nil) (fun _ _ _ _ _ => (pcall G_is_part hr (T.glo "is_part" (by decide +kernel)) (pa_cons (pv 2) (pa_cons (pv 3) pa_nil))))) pa_nil))))))), ?_⟩
  have hl := partsB_len hp
  have kl := shape_len hk
  have zl := line_big
  walk_at "st"
  refine isi_ask hd.dp (kit_tuple _) ?_
  cases hd with
  | @tup a xs _ hT hA =>
    cases hA with
    | @cons v0 vs _ _ h0 hA =>
      have h0' := h0
      cases h0 with
      | str _ hw =>
        have hvl := dta_len hA
        rw [show isiB (tyD (.tuple (.str wd :: ps))) "tuple" = true by rw [isi_tupleE]; rfl]
        walk_at "wp"
        refine ⟨_, .inr ⟨_, hT, rfl⟩, rfl, ?_⟩
        refine iteFb (by simp; omega) ?_
        refine ixT_at 0 hT rfl (isi_ask h0'.dp (kit_str _) ?_)
        rw [isi_str]
        walk_at "wp"
        refine ixT_at 0 hT rfl ⟨wd, rfl, some (Value.ref t0), et0, iteFb rfl ?_⟩
        walk_at "st"
        refine ixT_at 0 hT rfl (shp_ask T hk fun t hS hS' => ?_)
        walk_at "wp"
        refine ⟨_, .inr ⟨_, hT, rfl⟩, _, .inr ⟨_, hS, rfl⟩, rfl, iteTb ?_ ?_⟩
        · simp
          omega
        refine sl_tail hT fun p np => ?_
        walk_at "wp"
        have s0 : Same H (upd H p (.tup vs)) := same_new np _
        have hlen : (ks.map V.str).length = vs.length := by rw [List.length_map, hvl, hl]
        have hpt : SqT K (upd H p (.tup vs)) p vs := .inl (.inl upd_same)
        refine ⟨_, _, .inr ⟨hS' _, hpt, lcGo (walk_zipT (n := vs.length) (by omega)) (fun i acc H' => acc = List.replicate i (V.bl true)) (fun _ _ => rfl) (fun H1 sm => ⟨hS' _, (tups_of sm).sqT hpt⟩) ?_ ?_⟩⟩
        · rintro D i x acc H1 H2 nD hi sm hD hl2 hR hy
          obtain ⟨T', k, y, rfl, h1, h2, s2, hT'⟩ := pair_ask (K := K) hy
          walk_at "wp"
          obtain ⟨kd, hkd, rfl⟩ := strs_get h1
          obtain ⟨d, hd, gd⟩ := dta_of hA h2
          refine ⟨_, hT', rfl, _, _, rfl, _, _, rfl, rfl, kd, y, d, rfl, gd.keep ((tups_of s0).trans (tups_of (sm.trans s2))), fun H3 s3 => ?_⟩
          rw [partsB_at hp hkd hd]
          refine ⟨acc, s3 _ _ (s2 _ _ hD), by omega, .step nD ((sm.trans s2).trans s3) hl2 ?_⟩
          rw [hR, List.replicate_succ']
        · rintro D acc H1 nD sm hD hl2 hR
          refine ⟨D, List.replicate vs.length true, rfl, .of (by rw [hD, hR]; simp), ?_⟩
          rw [show (List.replicate vs.length true).all id = true by simp]
          exact q H1 (s0.trans sm)
end
end K91
set_option Elab.async false
set_option linter.all false
set_option maxRecDepth 100000
set_option maxHeartbeats 4000000
namespace K91
open PySem PySem.Spec PyProof.Rows L2
local macro_rules | `(tactic| walk_at "wp") => `(tactic| try simp only [cxK, cxw, cxK', cxw', start1, start2, start3, start4, start5, tRet, tRetN, tAsg, gName, gTup, gCons, gNil, gSub, tDrop, tNext, tIfS, tIf, tVar, tC, tAndV, tOrV, tNotV, tAnd, tOr, tNot, tTest, tB, tCB, tCons, tNil, tOp, tUn, rI0, rI, rU, rEq, rNe, rIn, tChain, tFld, sFld, tSl, tPart, tNoPart, tTup, tLst, tCallR, tMethR, tMethO, tBM, tBM0, tM0, tM1, tDGet, tDIn, tDNotIn, tDNewK, tCmp, t2I, tIsN, tNotN, tYes, tLc_eq, tFor_eq, RZ.iZipA, iStr, iTup, iList, iEnum, iEnumT, tDGet1, tDGet2, tDisp, tPairs, wipe, List.map_cons, List.map_nil,
  List.length_cons, List.length_nil, Nat.reduceAdd, Nat.reduceSub, List.replicate_succ, List.replicate_zero, if_true, if_false, Bool.not_true, Bool.not_false, Bool.false_eq_true, reduceIte,
  List.set_cons_zero, List.set_cons_succ, List.getElem?_cons_zero, List.getElem?_cons_succ, Option.some.injEq, exists_eq_left', exists_eq_left, V.int.injEq, V.str.injEq, V.bl.injEq, V.ref.injEq, V.ty.injEq, List.cons.injEq, and_true, true_and, and_assoc, exists_and_left, List.nil_append, List.cons_append, List.append_nil])
local macro_rules | `(tactic| walk_at "st") => `(tactic| (refine sq ?_; walk_at "wp"))
section
variable {P : Program} {w : World} {K : PySem.W.Frag} {mg : Str → Option Value} {base : Heap}
/-- the sizes of the functions, as a dict of the program -/
def sizesK (l : List (Str × Nat)) : List (Key × V) := l.map fun q => (.inr q.1, .int (q.2 : Nat))
theorem sizes_get (l : List (Str × Nat)) (f : Str) : valV (sizesK l) (.inr f) = (l.lookup f).map fun n => V.int (n : Nat) := by
  induction l with
  | nil => rfl
  | cons a r ih =>
    obtain ⟨x, n⟩ := a
    unfold valV sizesK at *
    rw [List.map_cons, List.find?_cons, List.lookup_cons]
    by_cases c : x = f
    · subst c
      simp
    · have c2 : (f == x) = false := by simpa using fun z => c z.symm
      have c3 : decide ((Sum.inr x : Key) = Sum.inr f) = false := by simpa using c
      rw [c2, c3]
      exact ih
/-- a checker -/
def ChkAt (K : PySem.W.Frag) (H : Hp) (p : Addr) (c : Cx91) : Prop := ∃ dx fn ds bl, H p = some (.ins (He.ga K "Checker") dx [("function", fn), ("sizes", .ref ds), ("box_names", .ref bl)]) ∧ H ds = some (.dK (sizesK c.sizes)) ∧ H bl = some (.lst (c.boxes.map V.str))
theorem ChkAt.same {H H' : Hp} {p : Addr} {c : Cx91} (h : ChkAt K H p c) (s : Same H H') : ChkAt K H' p c := by
  obtain ⟨dx, fn, ds, bl, h1, h2, h3⟩ := h
  exact ⟨dx, fn, ds, bl, s _ _ h1, s _ _ h2, s _ _ h3⟩
def spUses (K : PySem.W.Frag) : Sp := fun vs H Q _ => ∃ p v pa wd ps ks c, ∃ loops : Nat, vs = [.ref p, v, pa, .int loops] ∧ ChkAt K H p c ∧ Dt K H v (.tuple (.str wd :: ps)) ∧ shapeOf wd = some ks ∧ partsB ks ps = true ∧ usesOk c loops wd ps ∧ ∀ H', Same H H' → Q .non H'
theorem in2 (x a b : Str) : inV (V.str x) [.str a, .str b] = (decide (x = a) || decide (x = b)) := by
  have h := in_strs x [a, b]
  rw [show ([a, b] : List Str).map V.str = [.str a, .str b] from rfl] at h
  rw [h]
  by_cases c1 : x = a <;> by_cases c2 : x = b <;> simp [c1, c2]
theorem uses_call {c : Cx91} {loops : Nat} {wd : Str} {ps : List PyData} (hu : usesOk c loops wd ps) (h : (decide (wd = "call") || decide (wd = "fork")) = true) :
    ∃ a f es m, ps = [a, .str f, .tuple es] ∧ c.sizes.lookup f = some m ∧ m = es.length + (if wd = "call" then 0 else 1) := by
  rcases Bool.or_eq_true_iff.mp h with h | h
  · have h := of_decide_eq_true h
    obtain ⟨a, f, es, e, l⟩ := hu.1 h
    exact ⟨a, f, es, _, e, l, by rw [if_pos h]; rfl⟩
  · have h := of_decide_eq_true h
    obtain ⟨a, f, es, e, l⟩ := hu.2.1 h
    exact ⟨a, f, es, _, e, l, by rw [if_neg (by rw [h]; decide)]⟩
theorem all_flat (l : List Str) : (l.map V.str).all flatV = true := by
  rw [List.all_eq_true]
  intro x hx
  obtain ⟨y, _, rfl⟩ := List.mem_map.mp hx
  rfl
theorem box_at (wd : Str) : valV (mergeK [] [((.inr "write" : Key), V.int 1), (.inr "read", V.int 2)]) (.inr wd) = if wd = "write" then some (.int 1) else if wd = "read" then some (.int 2) else none := by
  have e : mergeK [] [((.inr "write" : Key), V.int 1), (.inr "read", V.int 2)] = [((.inr "write" : Key), V.int 1), (.inr "read", V.int 2)] := by rfl
  rw [e]
  unfold valV
  rw [List.find?_cons, List.find?_cons, List.find?_nil]
  by_cases c1 : wd = "write"
  · subst c1; rfl
  · rw [if_neg c1, show decide ((Sum.inr "write" : Key) = Sum.inr wd) = false from decide_eq_false fun z => c1 (Sum.inr.inj z).symm]
    by_cases c2 : wd = "read"
    · subst c2; rfl
    · rw [if_neg c2, show decide ((Sum.inr "read" : Key) = Sum.inr wd) = false from decide_eq_false fun z => c2 (Sum.inr.inj z).symm]
      rfl
theorem ok_Checker_check_uses (T : Top K mg w)  : FnR P w K mg base CX0 1 (He.ma K (He.ga K "Checker") "check_uses") (spUses K) := by
  obtain ⟨fd, F⟩ := T.def_ d_Checker_check_uses (List.mem_of_getElem? (i := 17) rfl)
  refine mkR F sc_Checker_check_uses (fun _ _ _ _ _ _ us hl => match us, hl with | [_, _, _, _], _ => rfl) (fun vs H Q E h => ?_) (fun cdv A outer s H vs Q E hr h => ?_)
  · obtain ⟨p, v, pa, wd, ps, ks, c, loops, rfl, _⟩ := h; rfl
  obtain ⟨p, v, pa, wd, ps, ks, c, loops, rfl, hc, hd, hk, hp, hu, q⟩ := h
  refine ⟨_, pss_cons (ps_set (i := 4) sc_Checker_check_uses.nd rfl (by first | exact Or.inl rfl | exact Or.inr rfl) (pe_ix (r := rIxT K) ix_tup (pv 1) pe_int (fun _ _ => rfl)))
    (pss_cutK (ps_if (pt_cmpR (r := rIn K false) op_in_seq (pv 4) (pe_tup (pa_cons pe_str (pa_cons pe_str pa_nil))) rfl) (pss_cons (ps_if (pt_cmp (pc_dnotin (hu_of hr) (pe_ix (r := rIxT K) ix_tup (pv 1) pe_int (fun _ _ => rfl)) (pe_fld (pv 0) rfl))) (pss_one ps_never) pss_nil)
    (pss_cutK (ps_set (i := 5) sc_Checker_check_uses.nd rfl (by first | exact Or.inl rfl | exact Or.inr rfl) (pe_ifExp (pt_cmpR (op_eq) (pv 4) pe_str (nomark _)) (pe_callB (r := fun xs H Q => ∃ x n, xs = [x] ∧ LenV K x H n ∧ Q (.int n) H) call_len (by rfl) (T.free "len" (by decide +kernel)) (by decide +kernel) (pa_cons (pe_ix (r := rIxT K) ix_tup (pv 1) pe_int (fun _ _ => rfl)) pa_nil)) (pe_op op_add (pe_callB (r := fun xs H Q => ∃ x n, xs = [x] ∧ LenV K x H n ∧ Q (.int n) H) call_len (by rfl) (T.free "len" (by decide +kernel)) (by decide +kernel) (pa_cons (pe_ix (r := rIxT K) ix_tup (pv 1) pe_int (fun _ _ => rfl)) pa_nil)) pe_int)))
    (pss_one (ps_if (pt_cmpR (op_ne) (pv 5) (pe_dget (hu_of hr) (pe_fld (pv 0) rfl) (pe_ix (r := rIxT K) ix_tup (pv 1) pe_int (fun _ _ => rfl)) (fun _ _ => rfl)) (nomark _)) (pss_one ps_never) pss_nil)))) pss_nil)
    (pss_cons (ps_set (i := 6) sc_Checker_check_uses.nd rfl (by first | exact Or.inl rfl | exact Or.inr rfl) (pe_dget2 (hu_of hr) (pe_disp (pps_cons pe_str pe_int (pps_cons pe_str pe_int pps_nil)) (by rfl) (by rfl) (fun z => by cases z) (by decide)) (pv 4) pe_non ⟨rfl, by rfl, rfl, rfl⟩))
    (pss_cutK (ps_if (PW.pt (pw_and (pt_cmpR (op_notN) (pv 6) pe_non (nomark _)) (pw_and1 (pt_cmpR (r := rIn K true) op_notIn_seq (pe_ix (r := rIxT K) ix_tup (pv 1) (pv 6) (fun _ _ => rfl)) (pe_fld (pv 0) rfl) rfl)))) (pss_one ps_never) pss_nil)
    (pss_one (ps_if (PW.pt (pw_and (pt_cmpR (r := rIn K false) op_in_seq (pv 4) (pe_tup (pa_cons pe_str (pa_cons pe_str pa_nil))) rfl) (pw_and1 (pt_cmpR (op_gt) (pe_ix (r := rIxT K) ix_tup (pv 1) pe_int (fun _ _ => rfl)) (pv 3) (nomark _))))) (pss_one ps_never) pss_nil))))), ?_⟩
  have zl := line_big
  cases hd with
  | @tup a xs _ hT hA =>
    cases hA with
    | @cons v0 vs _ _ h0 hA =>
      cases h0 with
      | str _ hw =>
        walk_at "st"
        refine ixT_at 0 hT rfl ?_
        obtain ⟨dx, fn, ds, bl, hC1, hC2, hC3⟩ := hc
        refine cutI (fun σ H' => ∃ x5, σ = [some (V.ref p), some (V.ref a), some pa, some (V.int (loops : Nat)), some (V.str wd), x5, none] ∧ Same H H') ?_ ?_
        · walk_at "wp"
          refine ⟨by decide, fun t1 n1 => ⟨_, .inr (.inl (.inl upd_same)), rfl, rfl, ?_⟩⟩
          have s1 := same_new n1 (.tup [.str "call", .str "fork"])
          have t1' := tups_of s1
          rw [in2 wd "call" "fork"]
          refine ite2 (fun c1 => ?_) (fun _ => s1)
          obtain ⟨ea, f, es, m, rfl, hm, em⟩ := uses_call hu c1
          obtain ⟨va, hva, _⟩ := dta_get (i := 0) hA rfl
          obtain ⟨vf, hvf, gf⟩ := dta_get (i := 1) hA rfl
          obtain ⟨ve, hve, ge⟩ := dta_get (i := 2) hA rfl
          cases gf
          cases ge with
          | @tup ae xe _ hTe hAe =>
          have le := dta_len hAe
          walk_at "st"
          refine ixT_at 2 (t1'.sqT hT) hvf ?_
          walk_at "wp"
          have cC : Cls K (He.ga K "Checker") := (T.cls "Checker" (by decide +kernel)).1
          have nS : NoAttr K (He.ga K "Checker") "sizes" := T.noat ("Checker", "sizes") (by decide +kernel)
          have gS : DGet (upd H t1 (.tup [.str "call", .str "fork"])) ds (V.str f) (some (.int (m : Nat))) := by
            have := DGet.k (k := .inr f) (s1 _ _ hC2)
            rw [sizes_get, hm] at this
            exact this
          refine fldw (s1 _ _ hC1) cC nS rfl ⟨_, rfl, _, gS, iteFb rfl ?_⟩
          have lV : LenV K (.ref ae) (upd H t1 (.tup [.str "call", .str "fork"])) es.length := .inr ⟨_, t1'.sqT hTe, le.symm⟩
          refine cutI (fun σ H' => σ = [some (V.ref p), some (V.ref a), some pa, some (V.int (loops : Nat)), some (V.str wd), some (V.int (m : Nat)), none] ∧ H' = upd H t1 (.tup [.str "call", .str "fork"])) ?_ ?_
          · walk_at "wp"
            refine ⟨rfl, ?_⟩
            by_cases cc : wd = "call"
            · rw [if_pos cc] at em
              refine iteTb (decide_eq_true cc) (ixT_at 3 (t1'.sqT hT) hve ⟨_, lV, ?_⟩)
              exact ⟨by omega, rfl⟩
            · rw [if_neg cc] at em
              refine iteFb (decide_eq_false cc) (ixT_at 3 (t1'.sqT hT) hve ⟨_, lV, ?_⟩)
              exact ⟨by omega, rfl⟩
          · rintro σ H' ⟨rfl, rfl⟩
            walk_at "wp"
            exact fldw (s1 _ _ hC1) cC nS rfl (ixT_at 2 (t1'.sqT hT) hvf ⟨_, rfl, _, gS, rfl, iteFb (by simp) s1⟩)
        · rintro σ H' ⟨x5, rfl, s1⟩
          walk_at "st"
          intro p1 np
          have s2 := same_new np (.dK (mergeK [] [(.inr "write", .int 1), (.inr "read", .int 2)]))
          refine ⟨upd_same, [(.inr "write", .int 1), (.inr "read", .int 2)], rfl, by decide, .inl ⟨_, .inl upd_same⟩, _, .k (k := .inr wd) upd_same, ?_⟩
          rw [upd_upd, box_at]
          have s3 := s1.trans s2
          have t3 := tups_of s3
          have cC : Cls K (He.ga K "Checker") := (T.cls "Checker" (by decide +kernel)).1
          have nB : NoAttr K (He.ga K "Checker") "box_names" := T.noat ("Checker", "box_names") (by decide +kernel)
          refine cutI (fun σ H' => ∃ x5 x6, σ = [some (V.ref p), some (V.ref a), some pa, some (V.int (loops : Nat)), some (V.str wd), x5, x6] ∧ Same H H') ?_ ?_
          · walk_at "wp"
            by_cases c1 : wd = "write"
            · rw [if_pos c1]
              obtain ⟨b, e, rfl, hb⟩ := hu.2.2.1 c1
              obtain ⟨vb, hvb, gb⟩ := dta_get (i := 0) hA rfl
              cases gb
              refine iteTb rfl (ixT_at 1 (t3.sqT hT) hvb (fldw (s3 _ _ hC1) cC nB rfl ⟨_, rfl, _, .inl (.of (s3 _ _ hC3)), rfl, all_flat _, iteFb ?_ s3⟩))
              rw [in_strs]
              simpa using hb
            · rw [if_neg c1]
              by_cases c2 : wd = "read"
              · rw [if_pos c2]
                obtain ⟨e, b, rfl, hb⟩ := hu.2.2.2.1 c2
                obtain ⟨vb, hvb, gb⟩ := dta_get (i := 1) hA rfl
                cases gb
                refine iteTb rfl (ixT_at 2 (t3.sqT hT) hvb (fldw (s3 _ _ hC1) cC nB rfl ⟨_, rfl, _, .inl (.of (s3 _ _ hC3)), rfl, all_flat _, iteFb ?_ s3⟩))
                rw [in_strs]
                simpa using hb
              · rw [if_neg c2]
                exact iteFb rfl s3
          · rintro σ H2 ⟨x5, x6, rfl, s4⟩
            walk_at "wp"
            refine ⟨by decide, fun t1 n1 => ⟨_, .inr (.inl (.inl upd_same)), rfl, rfl, ?_⟩⟩
            rw [in2 wd "break" "continue"]
            have s5 := s4.trans (same_new n1 (.tup [.str "break", .str "continue"]))
            refine ite2 (fun c1 => ?_) (fun _ => ?_)
            · have c2 : wd = "break" ∨ wd = "continue" := by
                rcases Bool.or_eq_true_iff.mp c1 with h | h
                · exact .inl (of_decide_eq_true h)
                · exact .inr (of_decide_eq_true h)
              obtain ⟨k, rfl, hk2⟩ := hu.2.2.2.2 c2
              obtain ⟨vb, hvb, gb⟩ := dta_get (i := 0) hA rfl
              cases gb
              refine ixT_at 1 ((tups_of s5).sqT hT) hvb ⟨_, rfl, iteFb (decide_eq_false (by omega)) (q _ s5)⟩
            · exact q _ s5
end
end K91
set_option Elab.async false
set_option linter.all false
set_option maxRecDepth 100000
set_option maxHeartbeats 4000000
namespace K91
open PySem PySem.Spec PyProof.Rows L2
local macro_rules | `(tactic| walk_at "wp") => `(tactic| try simp only [cxK, cxw, cxK', cxw', start1, start2, start3, start4, start5, tRet, tRetN, tAsg, gName, gTup, gCons, gNil, gSub, tDrop, tNext, tIfS, tIf, tVar, tC, tAndV, tOrV, tNotV, tAnd, tOr, tNot, tTest, tB, tCB, tCons, tNil, tOp, tUn, rI0, rI, rU, rEq, rNe, rIn, tChain, tFld, sFld, tSl, tPart, tNoPart, tTup, tLst, tCallR, tMethR, tMethO, tBM, tBM0, tM0, tM1, tDGet, tDIn, tDNotIn, tDNewK, tCmp, t2I, tIsN, tNotN, tYes, tLc_eq, tFor_eq, RZ.iZipA, iStr, iTup, iList, iEnum, iEnumT, tDGet1, tDGet2, tDisp, tPairs, wipe, List.map_cons, List.map_nil,
  List.length_cons, List.length_nil, Nat.reduceAdd, Nat.reduceSub, List.replicate_succ, List.replicate_zero, if_true, if_false, Bool.not_true, Bool.not_false, Bool.false_eq_true, reduceIte,
  List.set_cons_zero, List.set_cons_succ, List.getElem?_cons_zero, List.getElem?_cons_succ, Option.some.injEq, exists_eq_left', exists_eq_left, V.int.injEq, V.str.injEq, V.bl.injEq, V.ref.injEq, V.ty.injEq, List.cons.injEq, and_true, true_and, and_assoc, exists_and_left, List.nil_append, List.cons_append, List.append_nil])
local macro_rules | `(tactic| walk_at "st") => `(tactic| (refine sq ?_; walk_at "wp"))
section
variable {P : Program} {w : World} {K : PySem.W.Frag} {mg : Str → Option Value} {base : Heap}
theorem eqv_nil (ds : List PyData) : PyData.eqv (.list ds) (.list []) = ds.isEmpty := by
  cases ds <;> rfl
/-- [f(x) for x in l], f a test of data -/
theorem lcAllL {K : PySem.W.Frag} {j : Nat} {σ : L2.St} {H : Hp} {l : Addr} {us : List V} {ds : List PyData} {f : PyData → Bool} {Q : VK} (hj : j < σ.length) (hL : SqL K H l us) (hA : DtAll K H us ds) (hz : ds.length < sizeLine) (q : ∀ D H', Same H H' → H' D = some (.lst ((ds.map f).map V.bl)) → Q (.ref D) H') :
    LcGo (Itl K l) (gName j) tYes (tCallR (spD1 K f) (tCons (tVar j) tNil)) [j] σ H Q := by
  have hl := dta_len hA
  refine lcGo walk_list (fun i acc _ => acc = (ds.take i).map fun d => V.bl (f d)) (fun _ _ => rfl) (fun H1 sm => sm.seq hL) ?_ ?_
  · rintro D i x acc H1 H2 nD hi sm hD hl2 hR ⟨rfl, hx⟩
    obtain ⟨d, hd, g⟩ := dta_of hA hx
    have e1 : (((wipe σ [j]).set j (some x))[j]?) = some (some x) := by
      rw [List.getElem?_set_self]
      rw [wipe_length]
      exact hj
    refine ⟨by simp [wipe], ?_⟩
    simp only [tYes, if_true]
    refine ⟨x, e1, x, d, rfl, g.keep (tups_of sm), fun H3 s3 => ⟨acc, s3 _ _ hD, by omega, .step nD (sm.trans s3) hl2 ?_⟩⟩
    rw [hR, List.take_add_one, hd]
    simp
  · rintro D acc H1 nD sm hD hl2 hR
    refine q D H1 sm ?_
    rw [hD, hR, List.take_of_length_le (by omega), List.map_map]
    rfl
/-- bodies: sizes right, nothing odd within -/
def spForm (K : PySem.W.Frag) : Sp := fun vs H Q _ => ∃ p v pa wd ps ks, ∃ depth : Nat, vs = [.ref p, v, pa, .int (depth : Nat)] ∧ Dt K H v (.tuple (.str wd :: ps)) ∧ shapeOf wd = some ks ∧ partsB ks ps = true ∧
  (∀ b ∈ bodiesL ks ps, bodyB b = true) ∧ SeqAt.shaped (.list (bodiesL ks ps)) = true ∧ (bodiesL ks ps ≠ [] → depth ≤ 7) ∧ ∀ H', Same H H' → Q .non H'
theorem ok_Checker_check_form (T : Top K mg w)  : FnR P w K mg base CX0 12 (He.ma K (He.ga K "Checker") "check_form") (spForm K) := by
  obtain ⟨fd, F⟩ := T.def_ d_Checker_check_form (List.mem_of_getElem? (i := 16) rfl)
  refine mkR F sc_Checker_check_form (fun _ _ _ _ _ _ us hl => match us, hl with | [_, _, _, _], _ => rfl) (fun vs H Q E h => ?_) (fun cdv A outer s H vs Q E hr h => ?_)
  · obtain ⟨p, v, pa, wd, ps, ks, depth, rfl, _⟩ := h; rfl
  obtain ⟨p, v, pa, wd, ps, ks, depth, rfl, hd, hk, hp, hb, hsh, hdp, q⟩ := h
  have G_is_statement := ok_is_statement (P := P) (w := w) (base := base) T
  have G_bodies_of := ok_bodies_of (P := P) (w := w) (base := base) T
  have G_is_body := ok_is_body (P := P) (w := w) (base := base) T
  refine ⟨_, pss_cons (ps_if (pt_not (pt_val (pcall G_is_statement hr (T.glo "is_statement" (by decide +kernel)) (pa_cons (pv 1) pa_nil)))) (pss_one ps_never) pss_nil)
    (pss_cons (ps_set (i := 4) sc_Checker_check_form.nd rfl (by first | exact Or.inl rfl | exact Or.inr rfl) (pcall G_bodies_of hr (T.glo "bodies_of" (by decide +kernel)) (pa_cons (pv 1) pa_nil)))
    (pss_cons (ps_if (pt_not (pt_val (pe_callB (r := rAll K) (cr_all rfl) (by rfl) (T.free "all" (by decide +kernel)) (by decide +kernel) (pa_cons (pe_lc (own := [("body", 5)]) (g := (gName 5)) (tt := tYes) rfl sc_Checker_check_form.nd (pi_list (pv 4)) (blkOk_by (own := [("body", 5)]) (N := ["self", "statement", "path", "depth", "bodies", "body"]) (sc := defScope s_Checker_check_form) (by decide +kernel)) (fun _ _ _ _ _ => (pg_name (i := 5) sc_Checker_check_form.nd rfl (by first | exact Or.inl rfl | exact Or.inr rfl))) (fun _ _ _ _ _ => pts_nil) (fun _ _ _ _ _ => (pcall G_is_body hr (T.glo "is_body" (by decide +kernel)) (pa_cons (pv 5) pa_nil)))) pa_nil)))) (pss_one ps_never) pss_nil)
    (pss_one (ps_if (PW.pt (pw_and (pt_cmpR (op_neD hr.units) (pv 4) (pe_lst pa_nil) (nomark _)) (pw_and1 (pt_cmpR (op_gt) (pe_op op_add (pv 3) pe_int) (pe_gint (T.int ("MOST_DEPTH", 8) (by decide +kernel))) (nomark _))))) (pss_one ps_never) pss_nil)))), ?_⟩
  have zl := line_big
  have hl := partsB_len hp
  walk_at "st"
  refine ⟨v, wd, ps, ks, rfl, hd, hk, hp, fun H1 s1 => ⟨_, rfl, iteFb rfl ?_⟩⟩
  walk_at "st"
  refine ⟨v, wd, ps, ks, rfl, hd.keep (tups_of s1), hk, hl, fun H2 l us s2 nl el hA => ?_⟩
  walk_at "wp"
  walk_at "st"
  have kb : (bodiesL ks ps).length < sizeLine := by
    have := shape_len hk
    have z : (bodiesL ks ps).length ≤ (ks.zip ps).length := by unfold bodiesL; rw [List.length_map]; exact List.length_filter_le _ _
    rw [List.length_zip] at z
    omega
  refine ⟨⟨_, .of el⟩, lcAllL (by show 5 < 6; decide) (.of el) hA kb fun D H3 s3 eD => ⟨D, _, rfl, .of eD, _, rfl, iteFb ?_ ?_⟩⟩
  · have e : ((bodiesL ks ps).map bodyB).all id = true := by
      rw [List.all_eq_true]
      intro b hb'
      obtain ⟨y, hy, rfl⟩ := List.mem_map.mp hb'
      exact hb y hy
    rw [e]
    rfl
  refine ⟨Nat.zero_le _, fun p1 n1 => ?_⟩
  have s4 := s3.trans (same_new n1 (.lst []))
  have s5 := (s1.trans s2).trans s4
  refine ⟨_, .list [], .lst (.of (s4 _ _ el)) (hA.keep (tups_of s4)).dp, .lst (.of upd_same) .nil, hsh, by decide +kernel, _, rfl, ?_⟩
  rw [eqv_nil]
  refine ite2 (fun c => ?_) (fun _ => q _ s5)
  have c1 : bodiesL ks ps ≠ [] := fun z => by rw [z] at c; cases c
  have := hdp c1
  exact iteFb (decide_eq_false (by omega)) (q _ s5)
theorem body_bodyB {c : Cx91} {n l : Nat} {b : PyData} (h : bodyOk c n l b) : bodyB b = true := by
  cases n with
  | zero => exact h.elim
  | succ n =>
    obtain ⟨ds, rfl, h1, h2, _⟩ := h
    show (decide ((1 : Int) ≤ (ds.length : Nat)) && decide (((ds.length : Nat) : Int) ≤ 20)) = true
    rw [decide_eq_true (by omega), decide_eq_true (by omega)]
    rfl
/-! ### the shape of bodies -/
def shP (m : Nat) (d : PyData) : Prop := d.canLay0 = true ∧ d.depth ≤ m
theorem shP.mono {m k : Nat} {d : PyData} (h : shP m d) (l : m ≤ k) : shP k d := ⟨h.1, Nat.le_trans h.2 l⟩
theorem layAll : ∀ {ds : List PyData}, (∀ d ∈ ds, PyData.canLay0 d = true) → PyData.canLayAll0 ds = true
  | [], _ => by simp [PyData.canLayAll0]
  | d :: r, h => by
    simp only [PyData.canLayAll0, Bool.and_eq_true]
    exact ⟨h d List.mem_cons_self, layAll fun x hx => h x (List.mem_cons_of_mem _ hx)⟩
theorem depAll {m : Nat} : ∀ {ds : List PyData}, (∀ d ∈ ds, PyData.depth d ≤ m) → PyData.depthAll ds ≤ m
  | [], _ => by simp [PyData.depthAll]
  | d :: r, h => by
    simp only [PyData.depthAll]
    have h1 := h d List.mem_cons_self
    have h2 := depAll (m := m) (ds := r) fun x hx => h x (List.mem_cons_of_mem _ hx)
    omega
theorem sh_tup {m : Nat} {ds : List PyData} (h : ∀ d ∈ ds, shP m d) : shP (m + 1) (.tuple ds) :=
  ⟨by simp only [PyData.canLay0]; exact layAll fun d hd => (h d hd).1, by simp only [PyData.depth]; exact Nat.succ_le_succ (depAll fun d hd => (h d hd).2)⟩
theorem sh_int (m : Nat) (i : Int) : shP m (.int i) := ⟨by simp [PyData.canLay0], by simp [PyData.depth]⟩
theorem sh_str (m : Nat) {x : Str} (h : x.cps.toList.all (fun c => decide (c < 1114112)) = true) : shP m (.str x) :=
  ⟨by simp only [PyData.canLay0, PyData.strOk, Array.all_eq_true_iff_forall_mem]
      intro c hc
      exact List.all_eq_true.mp h c (by simpa using hc), by simp [PyData.depth]⟩
theorem sh_name (m : Nat) {x : Str} (h : nameB x = true) : shP m (.str x) := sh_str m (by
  unfold nameB at h
  rw [Bool.and_eq_true] at h
  rw [List.all_eq_true]
  intro c hc
  have h1 := of_decide_eq_true (List.all_eq_true.mp h.2 c hc)
  have z : ∀ c ∈ letters.cps.toList, c < 1114112 := by decide +kernel
  exact decide_eq_true (z c h1))
theorem isVal_int {d : PyData} (h : isValD d = true) : ∃ i, d = .int i ∧ -limit ≤ i ∧ i ≤ limit := by
  unfold isValD at h
  split at h
  · rename_i i
    rw [Bool.and_eq_true, decide_eq_true_eq, decide_eq_true_eq] at h
    exact ⟨i, rfl, h.1, h.2⟩
  · cases h
theorem isName_str {d : PyData} (h : isNameD d = true) : ∃ x, d = .str x ∧ nameB x = true := by
  unfold isNameD at h
  split at h
  · exact ⟨_, rfl, h⟩
  · cases h
theorem nested_cases {n : Nat} {d : PyData} (h : nestedB n d = true) : (∃ i, d = .int i ∧ -limit ≤ i ∧ i ≤ limit) ∨ (∃ x, d = .str x ∧ nameB x = true) ∨
    ∃ m o l r, n = m + 1 ∧ d = .tuple [.str o, l, r] ∧ m ≠ 0 ∧ ops.contains o = true ∧ nestedB m l = true ∧ nestedB m r = true := by
  cases n with
  | zero => unfold nestedB at h; cases h
  | succ m =>
    unfold nestedB at h
    rw [Bool.or_eq_true, Bool.or_eq_true] at h
    rcases h with (h | h) | h
    · exact .inl (isVal_int h)
    · exact .inr (.inl (isName_str h))
    · unfold opD at h
      split at h
      · rename_i o l r
        simp only [Bool.and_eq_true, bne_iff_ne, ne_eq] at h
        exact .inr (.inr ⟨m, o, l, r, rfl, rfl, h.1.1.1, h.1.1.2, h.1.2, h.2⟩)
      · cases h
theorem op_ok (m : Nat) {o : Str} (h : ops.contains o = true) : shP m (.str o) := sh_str m (by
  have z : ∀ o ∈ ops, o.cps.toList.all (fun c => decide (c < 1114112)) = true := by decide +kernel
  exact z o (List.contains_iff_mem.mp h))
theorem nested_sh : ∀ (n : Nat) (d : PyData), nestedB n d = true → shP n d
  | n, d, h => by
    induction n generalizing d with
    | zero => unfold nestedB at h; cases h
    | succ k ih =>
      rcases nested_cases h with ⟨i, rfl, _⟩ | ⟨x, rfl, hx⟩ | ⟨m, o, l, r, e, rfl, _, ho, hl, hr⟩
      · exact sh_int _ _
      · exact sh_name _ hx
      · cases e
        refine sh_tup fun x hx => ?_
        rcases List.mem_cons.mp hx with rfl | hx
        · exact op_ok _ ho
        rcases List.mem_cons.mp hx with rfl | hx
        · exact ih _ hl
        rcases List.mem_cons.mp hx with rfl | hx
        · exact ih _ hr
        · cases hx
theorem kinds_known {wd : Str} {ks : List Str} (h : shapeOf wd = some ks) : ∀ k ∈ ks, k = "name" ∨ k = "expression" ∨ k = "jump" ∨ k = "args" ∨ k = "body" := by
  have z : ∀ s ∈ shapes, ∀ k ∈ s.2, k = "name" ∨ k = "expression" ∨ k = "jump" ∨ k = "args" ∨ k = "body" := by decide +kernel
  exact z (wd, ks) (shapeOf_mem h)
theorem args_of {d : PyData} (h : argsB d = true) : ∃ es, d = .tuple es ∧ es.length ≤ 5 ∧ ∀ e ∈ es, nestedB 6 e = true := by
  unfold argsB at h
  split at h
  · rename_i es
    rw [Bool.and_eq_true, decide_eq_true_eq, List.all_eq_true] at h
    exact ⟨es, rfl, by omega, h.2⟩
  · cases h
theorem jump_of {d : PyData} (h : jumpB d = true) : ∃ i : Int, d = .int i ∧ 1 ≤ i := by
  unfold jumpB at h
  split at h
  · exact ⟨_, rfl, of_decide_eq_true h⟩
  · cases h
/-- a part by its kind -/
theorem part_cases {k : Str} {d : PyData} (hk : k = "name" ∨ k = "expression" ∨ k = "jump" ∨ k = "args" ∨ k = "body") (h : partB k d = true) :
    (k = "name" ∧ ∃ x, d = .str x ∧ nameB x = true) ∨ (k = "expression" ∧ nestedB 6 d = true) ∨ (k = "jump" ∧ ∃ i : Int, d = .int i ∧ 1 ≤ i) ∨ (k = "args" ∧ ∃ es, d = .tuple es ∧ es.length ≤ 5 ∧ ∀ e ∈ es, nestedB 6 e = true) ∨ k = "body" := by
  rcases hk with rfl | rfl | rfl | rfl | rfl
  · exact .inl ⟨rfl, isName_str h⟩
  · exact .inr (.inl ⟨rfl, h⟩)
  · exact .inr (.inr (.inl ⟨rfl, jump_of h⟩))
  · exact .inr (.inr (.inr (.inl ⟨rfl, args_of h⟩)))
  · exact .inr (.inr (.inr (.inr rfl)))
theorem part_sh {k : Str} {d : PyData} (hk : k = "name" ∨ k = "expression" ∨ k = "jump" ∨ k = "args" ∨ k = "body") (h : partB k d = true) (nb : k ≠ "body") : shP 7 d := by
  rcases part_cases hk h with ⟨_, x, rfl, hx⟩ | ⟨_, h⟩ | ⟨_, i, rfl, _⟩ | ⟨_, es, rfl, _, h⟩ | e
  · exact sh_name _ hx
  · exact (nested_sh 6 d h).mono (by omega)
  · exact sh_int _ _
  · exact sh_tup fun e he => nested_sh 6 e (h e he)
  · exact absurd e nb
theorem partsB_all {ks : List Str} {ps : List PyData} (h : partsB ks ps = true) : ∀ q ∈ ks.zip ps, partB q.1 q.2 = true := by
  unfold partsB at h
  rw [Bool.and_eq_true, List.all_eq_true] at h
  exact h.2
theorem mem_body {ks : List Str} {ps : List PyData} {q : Str × PyData} (h : q ∈ ks.zip ps) (e : q.1 = "body") : q.2 ∈ bodiesL ks ps := by
  unfold bodiesL
  exact List.mem_map.mpr ⟨q, List.mem_filter.mpr ⟨h, decide_eq_true e⟩, rfl⟩
theorem zip_mem_of {ks : List Str} {ps : List PyData} (hl : ps.length = ks.length) {p : PyData} (h : p ∈ ps) : ∃ k, (k, p) ∈ ks.zip ps := by
  obtain ⟨i, hi, rfl⟩ := List.mem_iff_getElem.mp h
  exact ⟨ks[i]'(by omega), List.mem_iff_getElem.mpr ⟨i, by rw [List.length_zip]; omega, by rw [List.getElem_zip]⟩⟩
theorem word_sh (m : Nat) {wd : Str} {ks : List Str} (h : shapeOf wd = some ks) : shP m (.str wd) := sh_str m (by
  have z : ∀ s ∈ shapes, s.1.cps.toList.all (fun c => decide (c < 1114112)) = true := by decide +kernel
  exact z (wd, ks) (shapeOf_mem h))
theorem body_sh {c : Cx91} : ∀ (n l : Nat) (d : PyData), bodyOk c n l d → shP (2 * n + 8) d
  | 0, _, _, h => h.elim
  | n + 1, l, d, h => by
    obtain ⟨ds, rfl, _, _, hs⟩ := h
    refine (sh_tup (m := 2 * n + 9) fun s hm => ?_).mono (by omega)
    obtain ⟨wd, ps, ks, rfl, hk, hp, _, hB⟩ := hs s hm
    refine (sh_tup (m := 2 * n + 8) fun p hp2 => ?_).mono (by omega)
    rcases List.mem_cons.mp hp2 with rfl | hp2
    · exact word_sh _ hk
    obtain ⟨k, hz⟩ := zip_mem_of (partsB_len hp) hp2
    have hkn := kinds_known hk k (List.of_mem_zip hz).1
    by_cases c2 : k = "body"
    · exact body_sh n _ p (hB p (mem_body hz c2))
    · exact (part_sh hkn (partsB_all hp _ hz) c2).mono (by omega)
theorem body_shaped {c : Cx91} {n l : Nat} (hn : n ≤ 9) {bs : List PyData} (h : ∀ b ∈ bs, bodyOk c n l b) : SeqAt.shaped (.list bs) = true := by
  unfold SeqAt.shaped
  rw [Bool.and_eq_true]
  refine ⟨by simp only [PyData.canLay0]; exact layAll fun d hd => (body_sh n l d (h d hd)).1, decide_eq_true ?_⟩
  simp only [PyData.depth]
  have := depAll (m := 2 * n + 8) fun d hd => (body_sh n l d (h d hd)).2
  omega
def spCheckBody (K : PySem.W.Frag) (n : Nat) : Sp := fun vs H Q _ => ∃ p v pa c d, ∃ depth loops : Nat, ∃ px, vs = [.ref p, v, .ref pa, .int (depth : Nat), .int (loops : Nat)] ∧ ChkAt K H p c ∧ Dt K H v d ∧ bodyOk c n loops d ∧ n + depth ≤ 9 ∧ SqT K H pa px ∧ px.length ≤ 2 * depth ∧ ∀ H', Same H H' → Q .non H'
theorem st_Checker_check_body (T : Top K mg w) {n : Nat} (G_Checker_check_body : FnR P w K mg base CX0 (n + 13) (He.ma K (He.ga K "Checker") "check_body") (spCheckBody K n)) : FnR P w K mg base CX0 (n + 1 + 13) (He.ma K (He.ga K "Checker") "check_body") (spCheckBody K (n + 1)) := by
  obtain ⟨fd, F⟩ := T.def_ d_Checker_check_body (List.mem_of_getElem? (i := 15) rfl)
  refine mkR F sc_Checker_check_body (fun _ _ _ _ _ _ us hl => match us, hl with | [_, _, _, _, _], _ => rfl) (fun vs H Q E h => ?_) (fun cdv A outer s H vs Q E hr h => ?_)
  · obtain ⟨p, v, pa, c, d, depth, loops, px, rfl, _⟩ := h; rfl
  obtain ⟨p, v, pa, c, d, depth, loops, px, rfl, hc, hd, hb, hn, hpa, hpx, q⟩ := h
  have G_Checker_check_form := ok_Checker_check_form (P := P) (w := w) (base := base) T
  have G_Checker_check_uses := ok_Checker_check_uses (P := P) (w := w) (base := base) T
  have G_bodies_of := ok_bodies_of (P := P) (w := w) (base := base) T
  refine ⟨_, pss_one (ps_for PassesOwn.never rfl (pi_enumT (by rfl) (T.free "enumerate" (by decide +kernel)) (pa_cons (pv 1) pa_nil)) (pg_tup (n := 2) rfl (pgs_cons (pg_name (i := 5) sc_Checker_check_body.nd rfl (by first | exact Or.inl rfl | exact Or.inr rfl)) (pgs_cons (pg_name (i := 6) sc_Checker_check_body.nd rfl (by first | exact Or.inl rfl | exact Or.inr rfl)) pgs_nil)))
    (pss_cons (ps_set (i := 7) sc_Checker_check_body.nd rfl (by first | exact Or.inl rfl | exact Or.inr rfl) (pe_op (r := rCatA K) op_catA (pv 2) (pe_tup (pa_cons (pv 5) pa_nil))))
    (pss_cons (ps_expr (pe_methR (pv 0) (T.cls "Checker" (by decide +kernel)).1 (T.meth ("Checker", "check_form") (by decide +kernel)) G_Checker_check_form (hr.mono (by omega)) pass0 (pa_cons (pv 6) (pa_cons (pv 7) (pa_cons (pv 3) pa_nil)))))
    (pss_cons (ps_expr (pe_methR (pv 0) (T.cls "Checker" (by decide +kernel)).1 (T.meth ("Checker", "check_uses") (by decide +kernel)) G_Checker_check_uses (hr.mono (by omega)) pass0 (pa_cons (pv 6) (pa_cons (pv 7) (pa_cons (pv 4) pa_nil)))))
    (pss_cutK (ps_set (i := 8) sc_Checker_check_body.nd rfl (by first | exact Or.inl rfl | exact Or.inr rfl) (pe_ifExp (pt_cmpR (op_eq) (pe_ix (r := rIxT K) ix_tup (pv 6) pe_int (fun _ _ => rfl)) pe_str (nomark _)) (pe_op op_add (pv 4) pe_int) (pv 4)))
    (pss_one (ps_for PassesOwn.never rfl (pi_enum (by rfl) (T.free "enumerate" (by decide +kernel)) (pa_cons (pcall G_bodies_of hr (T.glo "bodies_of" (by decide +kernel)) (pa_cons (pv 6) pa_nil)) pa_nil)) (pg_tup (n := 2) rfl (pgs_cons (pg_name (i := 9) sc_Checker_check_body.nd rfl (by first | exact Or.inl rfl | exact Or.inr rfl)) (pgs_cons (pg_name (i := 10) sc_Checker_check_body.nd rfl (by first | exact Or.inl rfl | exact Or.inr rfl)) pgs_nil)))
    (pss_one (ps_expr (pe_methR (pv 0) (T.cls "Checker" (by decide +kernel)).1 (T.meth ("Checker", "check_body") (by decide +kernel)) G_Checker_check_body (hr.mono (by omega)) pass0 (pa_cons (pv 10) (pa_cons (pe_op (r := rCatA K) op_catA (pv 7) (pe_tup (pa_cons (pv 9) pa_nil))) (pa_cons (pe_op op_add (pv 3) pe_int) (pa_cons (pv 8) pa_nil)))))))))))))), ?_⟩
  have zl := line_big
  walk_at "wp"
  obtain ⟨ds, rfl, hd1, hd2, hds⟩ := hb
  cases hd with
  | @tup a xs _ hT hA =>
    have hl := dta_len hA
    obtain ⟨dx, fn, dsz, bl, hC1, hC2, hC3⟩ := id hc
    refine ⟨a, rfl, xs, hT, forGo walk_enumT (fun _ σ H' => ∃ x5 x6 x7 x8 x9 x10, σ = [some (V.ref p), some (V.ref a), some (V.ref pa), some (V.int (depth : Nat)), some (V.int (loops : Nat)), x5, x6, x7, x8, x9, x10] ∧ Same H H') ⟨_, _, _, _, _, _, rfl, .refl H⟩ (fun _ _ _ _ ⟨_, _, _, _, _, _, _, sm⟩ => (tups_of sm).sqT hT) ?_ (fun _ _ ⟨_, _, _, _, _, _, _, sm⟩ => q _ sm)⟩
    rintro i y σ H1 H2 hi ⟨x5, x6, x7, x8, x9, x10, rfl, sm⟩ hy
    obtain ⟨T', k, z, rfl, h1, h2, s2, hT'⟩ := pair_ask (K := K) hy
    have ek : k = V.int (i : Nat) := (Option.some.inj h1).symm
    subst ek
    have sm := sm.trans s2
    obtain ⟨d, hd, gd⟩ := dta_of hA h2
    obtain ⟨wd, ps, ks, rfl, hk, hp, hu, hB⟩ := hds d (List.mem_of_getElem? hd)
    walk_at "wp"
    refine ⟨_, hT', rfl, _, _, rfl, _, _, rfl, rfl, ?_⟩
    walk_at "st"
    refine ⟨by decide, fun p1 n1 => cat_ask ((tups_of (sm.trans (same_new n1 _))).sqT hpa) (.inl (.inl upd_same)) (by simp; omega) fun r H3 s3 hr3 => ?_⟩
    have s4 := sm.trans ((same_new n1 (.tup [.int (i : Nat)])).trans s3)
    have cC : Cls K (He.ga K "Checker") := (T.cls "Checker" (by decide +kernel)).1
    have hbl := partsB_len hp
    walk_at "st"
    refine ⟨_, _, s4 _ _ hC1, rfl, p, z, .ref r, wd, ps, ks, depth, rfl, gd.keep (tups_of s4), hk, hp, fun b hb => body_bodyB (hB b hb), body_shaped (by omega) hB, fun z => ?_, fun H5 s5 => ?_⟩
    · cases e : bodiesL ks ps with
      | nil => exact absurd e z
      | cons b0 _ =>
        have := hB b0 (by rw [e]; exact .head _)
        cases n with
        | zero => exact this.elim
        | succ m => omega
    have s6 := s4.trans s5
    walk_at "st"
    refine ⟨_, _, s6 _ _ hC1, rfl, p, z, .ref r, wd, ps, ks, c, loops, rfl, hc.same s6, gd.keep (tups_of s6), hk, hp, hu, fun H7 s7 => ?_⟩
    have s8 := s6.trans s7
    have g8 := gd.keep (tups_of s8)
    cases gd with
    | @tup az xz _ hTz hAz =>
    cases hAz with
    | @cons z0 zs _ _ hz0 hAz =>
    cases hz0
    have hbz := partsB_len hp
    refine cutI (fun σ H' => ∃ x9 x10, σ = [some (V.ref p), some (V.ref a), some (V.ref pa), some (V.int (depth : Nat)), some (V.int (loops : Nat)), some (V.int (i : Nat)), some (V.ref az), some (V.ref r), some (V.int ((if wd = "loop" then loops + 1 else loops : Nat) : Nat)), x9, x10] ∧ Same H3 H') ?_ ?_
    · walk_at "wp"
      refine ixT_at 0 ((tups_of s8).sqT hTz) rfl ⟨rfl, ite2 (fun c => ?_) (fun c => ?_)⟩
      · have c' : wd = "loop" := V.str.inj (of_decide_eq_true c)
        exact ⟨by rw [if_pos c']; rfl, s5.trans s7⟩
      · have c' : ¬ wd = "loop" := fun z => c (decide_eq_true (by rw [z]))
        exact ⟨by rw [if_neg c'], s5.trans s7⟩
    rintro σ H8 ⟨x9, x10, rfl, s93⟩
    have s9 := s4.trans s93
    walk_at "wp"
    have hAz9 := hAz.keep (tups_of s9)
    refine ⟨.ref az, wd, ps, ks, rfl, .tup ((tups_of s9).sqT hTz) (.cons (.str _ (by assumption)) hAz9), hk, hbz, fun H9 l us s10 nl el hL => ?_⟩
    have s11 := s9.trans s10
    refine ⟨l, rfl, us, .of el, forGo walk_enum (fun _ σ H' => ∃ x9 x10, σ = [some (V.ref p), some (V.ref a), some (V.ref pa), some (V.int (depth : Nat)), some (V.int (loops : Nat)), some (V.int (i : Nat)), some (V.ref az), some (V.ref r), some (V.int ((if wd = "loop" then loops + 1 else loops : Nat) : Nat)), x9, x10] ∧ Same H9 H') ⟨_, _, rfl, .refl _⟩ (fun _ _ _ _ ⟨_, _, _, sm⟩ => sm.seq (.of el)) ?_ (fun σ H' ⟨_, _, e, sm⟩ => ⟨_, _, _, _, _, _, e, s11.trans sm⟩)⟩
    rintro j y σ Ha Hb hj ⟨x9, x10, rfl, sa⟩ hy
    obtain ⟨T2, k, z, rfl, h1, h2, sb, hT2⟩ := pair_ask (K := K) hy
    have ek : k = V.int (j : Nat) := (Option.some.inj h1).symm
    subst ek
    have sab := sa.trans sb
    obtain ⟨d, hd, gd2⟩ := dta_of hL h2
    have hbd := hB d (List.mem_of_getElem? hd)
    walk_at "wp"
    refine ⟨_, hT2, rfl, _, _, rfl, _, _, rfl, rfl, ?_⟩
    have sc := s11.trans sab
    have n1 : 1 ≤ n := by
      cases n with
      | zero => exact hbd.elim
      | succ m => omega
    refine ⟨_, _, sc _ _ hC1, rfl, by decide, fun p2 np2 => cat_ask (xs := px ++ [V.int (i : Nat)]) (ys := [V.int (j : Nat)]) ?_ (.inl (.inl upd_same)) (by simp; omega) fun r2 Hc s12 hr2 => ?_⟩
    · exact (tups_of (same_new np2 _)).sqT ((tups_of ((s93.trans s10).trans sab)).sqT hr3)
    have sd := sc.trans ((same_new np2 (.tup [.int (j : Nat)])).trans s12)
    refine ⟨p, z, r2, c, d, depth + 1, if wd = "loop" then loops + 1 else loops, _, by simp, hc.same sd, gd2.keep (tups_of (sab.trans ((same_new np2 _).trans s12))), hbd, by omega, hr2, by simp; omega, fun He se => ?_⟩
    exact (sab.trans ((same_new np2 _).trans s12)).trans se
theorem ok_Checker_check_body (T : Top K mg w) : ∀ n : Nat, FnR P w K mg base CX0 (n + 13) (He.ma K (He.ga K "Checker") "check_body") (spCheckBody K n)
  | 0 => fun A outer s H us vs Q E _ _ _ h => by
    obtain ⟨_, _, _, _, _, _, _, _, _, _, _, h, _⟩ := h
    exact h.elim
  | n + 1 => st_Checker_check_body T (ok_Checker_check_body T n)
end
end K91
set_option Elab.async false
set_option linter.all false
set_option maxRecDepth 100000
set_option maxHeartbeats 4000000
namespace K91
open PySem PySem.Spec PyProof.Rows L2
local macro_rules | `(tactic| walk_at "wp") => `(tactic| try simp only [cxK, cxw, cxK', cxw', start1, start2, start3, start4, start5, tRet, tRetN, tAsg, gName, gTup, gCons, gNil, gSub, tDrop, tNext, tIfS, tIf, tVar, tC, tAndV, tOrV, tNotV, tAnd, tOr, tNot, tTest, tB, tCB, tCons, tNil, tOp, tUn, rI0, rI, rU, rEq, rNe, rIn, tChain, tFld, sFld, tSl, tPart, tNoPart, tTup, tLst, tCallR, tMethR, tMethO, tBM, tBM0, tM0, tM1, tDGet, tDIn, tDNotIn, tDNewK, tCmp, t2I, tIsN, tNotN, tYes, tLc_eq, tFor_eq, RZ.iZipA, iStr, iTup, iList, iEnum, iEnumT, tDGet1, tDGet2, tDisp, tPairs, wipe, List.map_cons, List.map_nil,
  List.length_cons, List.length_nil, Nat.reduceAdd, Nat.reduceSub, List.replicate_succ, List.replicate_zero, if_true, if_false, Bool.not_true, Bool.not_false, Bool.false_eq_true, reduceIte,
  List.set_cons_zero, List.set_cons_succ, List.getElem?_cons_zero, List.getElem?_cons_succ, Option.some.injEq, exists_eq_left', exists_eq_left, V.int.injEq, V.str.injEq, V.bl.injEq, V.ref.injEq, V.ty.injEq, List.cons.injEq, and_true, true_and, and_assoc, exists_and_left, List.nil_append, List.cons_append, List.append_nil])
local macro_rules | `(tactic| walk_at "st") => `(tactic| (refine sq ?_; walk_at "wp"))
section
variable {P : Program} {w : World} {K : PySem.W.Frag} {mg : Str → Option Value} {base : Heap}
/-- a pair (path, statement) -/
def PairAt (K : PySem.W.Frag) (H : Hp) (n : Nat) (u : V) : Prop := ∃ t a xs v, u = .ref t ∧ SqT K H t [.ref a, v] ∧ SqT K H a xs ∧ xs.length ≤ 2 * n
theorem PairAt.keep {K : PySem.W.Frag} {H H' : Hp} {n m : Nat} {u : V} (h : PairAt K H n u) (t : Tups H H') (l : n ≤ m) : PairAt K H' m u := by
  obtain ⟨t1, a, xs, v, rfl, h1, h2, h3⟩ := h
  exact ⟨t1, a, xs, v, rfl, t.sqT h1, t.sqT h2, by omega⟩
theorem cntS_of {n : Nat} {wd : Str} {ps : List PyData} {ks : List Str} (hk : shapeOf wd = some ks) : cntS (cntB n) (.tuple (.str wd :: ps)) = 1 + ((bodiesL ks ps).map (cntB n)).sum := by
  show 1 + ((bodiesL ((shapeOf wd).getD []) ps).map (cntB n)).sum = _
  rw [hk]
  rfl
theorem sum_take_le (l : List Nat) (i : Nat) : (l.take i).sum ≤ l.sum := by
  have e := List.take_append_drop i l
  have := congrArg List.sum e
  rw [List.sum_append] at this
  omega
theorem sum_take_succ {l : List Nat} {i x : Nat} (h : l[i]? = some x) : (l.take (i + 1)).sum = (l.take i).sum + x := by
  rw [List.take_add_one, h]
  simp
theorem ext_ask {H : Hp} {l b : Addr} {xs zs : List V} {Q : VK} (h : H l = some (.lst xs)) (h2 : H b = some (.lst zs)) (hz : xs.length + zs.length ≤ sizeLine) (q : Q .non (upd H l (.lst (xs ++ zs)))) : rExtend (.ref l) [.ref b] H Q := ⟨l, b, xs, zs, rfl, rfl, h, h2, hz, q⟩
def spStsIn (K : PySem.W.Frag) (n : Nat) : Sp := fun vs H Q _ => ∃ v d c loops, vs = [v] ∧ Dt K H v d ∧ bodyOk c n loops d ∧ n ≤ 9 ∧ cntB n d ≤ 100000 ∧
  ∀ H' l us, H l = none → Same H H' → H' l = some (.lst us) → us.length = cntB n d → (∀ u ∈ us, PairAt K H' n u) → Q (.ref l) H'
theorem st_statements_in (T : Top K mg w) {n : Nat} (G_statements_in : FnR P w K mg base CX0 (n + 2) (He.ga K "statements_in") (spStsIn K n)) : FnR P w K mg base CX0 (n + 1 + 2) (He.ga K "statements_in") (spStsIn K (n + 1)) := by
  obtain ⟨fd, F⟩ := T.def_ d_statements_in (List.mem_of_getElem? (i := 9) rfl)
  refine mkR F sc_statements_in (fun _ _ _ _ _ _ us hl => match us, hl with | [_], _ => rfl) (fun vs H Q E h => ?_) (fun cdv A outer s H vs Q E hr h => ?_)
  · obtain ⟨v, d, c, loops, rfl, _⟩ := h; rfl
  obtain ⟨v, d, c, loops, rfl, hd, hb, hn, hc, q⟩ := h
  have G_bodies_of := ok_bodies_of (P := P) (w := w) (base := base) T
  refine ⟨_, pss_cons (ps_set (i := 1) sc_statements_in.nd rfl (by first | exact Or.inl rfl | exact Or.inr rfl) (pe_lst pa_nil))
    (pss_cons (ps_for PassesOwn.never rfl (pi_enumT (by rfl) (T.free "enumerate" (by decide +kernel)) (pa_cons (pv 0) pa_nil)) (pg_tup (n := 2) rfl (pgs_cons (pg_name (i := 2) sc_statements_in.nd rfl (by first | exact Or.inl rfl | exact Or.inr rfl)) (pgs_cons (pg_name (i := 3) sc_statements_in.nd rfl (by first | exact Or.inl rfl | exact Or.inr rfl)) pgs_nil)))
    (pss_cons (ps_expr (pe_bm PySem.F.plainAttrs_list PySem.F.slot_list_append PySem.F.type_list_append mt_append (pv 1) (pa_cons (pe_tup (pa_cons (pe_tup (pa_cons (pv 2) pa_nil)) (pa_cons (pv 3) pa_nil))) pa_nil)))
    (pss_one (ps_for PassesOwn.never rfl (pi_enum (by rfl) (T.free "enumerate" (by decide +kernel)) (pa_cons (pcall G_bodies_of hr (T.glo "bodies_of" (by decide +kernel)) (pa_cons (pv 3) pa_nil)) pa_nil)) (pg_tup (n := 2) rfl (pgs_cons (pg_name (i := 4) sc_statements_in.nd rfl (by first | exact Or.inl rfl | exact Or.inr rfl)) (pgs_cons (pg_name (i := 5) sc_statements_in.nd rfl (by first | exact Or.inl rfl | exact Or.inr rfl)) pgs_nil)))
    (pss_one (ps_expr (pe_bm PySem.F.plainAttrs_list PySem.F.slot_list_extend PySem.F.type_list_extend mt_extend (pv 1) (pa_cons (pe_lc (own := [("path", 6), ("each", 7)]) (g := (gTup K 2 (gCons (gName 6) (gCons (gName 7) gNil)))) (tt := tYes) rfl sc_statements_in.nd (pi_list (pcall G_statements_in hr (T.glo "statements_in" (by decide +kernel)) (pa_cons (pv 5) pa_nil))) (blkOk_by (own := [("path", 6), ("each", 7)]) (N := ["body", "found", "position", "statement", "number", "inner", "path", "each"]) (sc := defScope s_statements_in) (by decide +kernel)) (fun _ _ _ _ _ => (pg_tup (n := 2) rfl (pgs_cons (pg_name (i := 6) sc_statements_in.nd rfl (by first | exact Or.inl rfl | exact Or.inr rfl)) (pgs_cons (pg_name (i := 7) sc_statements_in.nd rfl (by first | exact Or.inl rfl | exact Or.inr rfl)) pgs_nil)))) (fun _ _ _ _ _ => pts_nil) (fun _ _ _ _ _ => (pe_tup (pa_cons (pe_op (r := rCatA K) op_catA (pe_tup (pa_cons (pv 2) (pa_cons (pv 4) pa_nil))) (pv 6)) (pa_cons (pv 7) pa_nil))))) pa_nil))))))))
    (pss_one (ps_ret (pv 1)))), ?_⟩
  have zl := line_big
  obtain ⟨ds, rfl, hd1, hd2, hds⟩ := hb
  cases hd with
  | @tup a xs _ hT hA =>
    have hl := dta_len hA
    walk_at "st"
    refine ⟨Nat.zero_le _, fun f nf => ?_⟩
    walk_at "st"
    have s0 := same_new nf (.lst [])
    refine ⟨xs, (tups_of s0).sqT hT, forGo walk_enumT (fun i σ H' => ∃ x2 x3 x4 x5 x6 x7 us, σ = [some (V.ref a), some (V.ref f), x2, x3, x4, x5, x6, x7] ∧ Same H H' ∧ H' f = some (.lst us) ∧ us.length = ((ds.map (cntS (cntB n))).take i).sum ∧ ∀ u ∈ us, PairAt K H' (n + 1) u)
      ⟨_, _, _, _, _, _, [], rfl, s0, upd_same, rfl, fun _ h => by cases h⟩ (fun _ _ _ _ ⟨_, _, _, _, _, _, _, _, sm, _⟩ => (tups_of sm).sqT hT) ?_ ?_⟩
    · rintro i y σ H1 H2 hi ⟨x2, x3, x4, x5, x6, x7, us, rfl, sm, hf, hlen, hus⟩ hy
      obtain ⟨T', k, z, rfl, h1, h2, s2, hT'⟩ := pair_ask (K := K) hy
      have ek : k = V.int (i : Nat) := (Option.some.inj h1).symm
      subst ek
      have hf2 := s2 _ _ hf
      have sm := sm.trans s2
      obtain ⟨d, hd, gd⟩ := dta_of hA h2
      obtain ⟨wd, ps, ks, rfl, hk, hp, hu, hB⟩ := hds d (List.mem_of_getElem? hd)
      have hbz := partsB_len hp
      walk_at "wp"
      refine ⟨_, hT', rfl, _, _, rfl, _, _, rfl, rfl, ?_⟩
      walk_at "st"
      have es : ((ds.map (cntS (cntB n))).take (i + 1)).sum = ((ds.map (cntS (cntB n))).take i).sum + (1 + ((bodiesL ks ps).map (cntB n)).sum) := sum_take_succ (by rw [List.getElem?_map, hd, ← cntS_of hk]; rfl)
      have et : ((ds.map (cntS (cntB n))).take (i + 1)).sum ≤ cntB (n + 1) (.tuple ds) := sum_take_le _ _
      refine ⟨tyL hf2, by decide, fun p1 n1 => ⟨by decide, fun p2 n2 => ?_⟩⟩
      have s34 := (same_new n1 (.tup [.int (i : Nat)])).trans (same_new n2 (.tup [.ref p1, z]))
      have hf4 := s34 _ _ hf2
      refine app_ask hf4 (by omega) ?_
      have sm5 := same_at nf (sm.trans s34) (.lst (us ++ [.ref p2]))
      have t5 := (tups_of s34).trans (tups_lst hf4 (.lst (us ++ [.ref p2])))
      have hus5 : ∀ u ∈ us ++ [V.ref p2], PairAt K (upd (upd (upd H2 p1 (.tup [.int (i : Nat)])) p2 (.tup [.ref p1, z])) f (.lst (us ++ [.ref p2]))) (n + 1) u := by
        intro u hu'
        rcases List.mem_append.mp hu' with h | h
        · exact (hus u h).keep ((tups_of s2).trans t5) (Nat.le_refl _)
        · rw [List.mem_singleton.mp h]
          have e1 : (upd (upd H2 p1 (.tup [.int (i : Nat)])) p2 (.tup [.ref p1, z])) p1 = some (.tup [.int (i : Nat)]) := same_new n2 _ _ _ upd_same
          have t6 := tups_lst hf4 (.lst (us ++ [.ref p2]))
          exact ⟨p2, p1, [.int (i : Nat)], z, rfl, t6.sqT (.inl (.inl upd_same)), t6.sqT (.inl (.inl e1)), by simp; omega⟩
      refine ⟨z, wd, ps, ks, rfl, gd.keep ((tups_of sm).trans t5), hk, hbz, fun H6 l bs s6 nl el hL => ⟨l, rfl, bs, .of el, ?_⟩⟩
      have hl6 := dta_len hL
      refine forGo walk_enum (fun j σ H' => ∃ x4 x5 x6 x7 us', σ = [some (V.ref a), some (V.ref f), some (V.int (i : Nat)), some z, x4, x5, x6, x7] ∧ Same H H' ∧ H' f = some (.lst us') ∧ us'.length = ((ds.map (cntS (cntB n))).take i).sum + 1 + (((bodiesL ks ps).map (cntB n)).take j).sum ∧ (∀ u ∈ us', PairAt K H' (n + 1) u) ∧ H' l = some (.lst bs) ∧ Tups H6 H')
        ⟨_, _, _, _, us ++ [.ref p2], rfl, sm5.trans s6, s6 _ _ upd_same, by simp [hlen], fun u hu' => (hus5 u hu').keep (tups_of s6) (Nat.le_refl _), el, .refl _⟩ (fun _ _ _ _ ⟨_, _, _, _, _, _, _, _, _, _, e, _⟩ => .of e) ?_ ?_
      · rintro j y σ Ha Hb hj ⟨x4, x5, x6, x7, us', rfl, sa, hfa, hla, hua, ela, ta⟩ hy
        obtain ⟨T2, k, b, rfl, h1, h2, sb, hT2⟩ := pair_ask (K := K) hy
        have ek : k = V.int (j : Nat) := (Option.some.inj h1).symm
        subst ek
        obtain ⟨db, hdb, gb⟩ := dta_of hL h2
        have hbd := hB db (List.mem_of_getElem? hdb)
        have e2 : (((bodiesL ks ps).map (cntB n)).take (j + 1)).sum = (((bodiesL ks ps).map (cntB n)).take j).sum + cntB n db := sum_take_succ (by rw [List.getElem?_map, hdb]; rfl)
        have e3 := sum_take_le ((bodiesL ks ps).map (cntB n)) (j + 1)
        walk_at "wp"
        refine ⟨_, hT2, rfl, _, _, rfl, _, _, rfl, rfl, tyL (sb _ _ hfa), b, db, c, _, rfl, gb.keep (ta.trans (tups_of sb)), hbd, by omega, by omega, fun Hc l2 us2 nl2 sc el2 hl2 hu2 => ⟨l2, rfl, ⟨_, .of el2⟩, ?_⟩⟩
        have tc := (tups_of sb).trans (tups_of sc)
        refine lcGo walk_list (fun k acc H' => acc.length = k ∧ ∀ u ∈ acc, PairAt K H' (n + 1) u) (fun D nD => ⟨rfl, fun _ h => by cases h⟩) (fun H' s' => .of (s' _ _ el2)) ?_ ?_
        · rintro D k x acc H1 H2 nD hk1 s1 eD lacc ⟨r1, r2⟩ ⟨eH, ex⟩
          subst eH
          obtain ⟨t1, a1, xs1, v1, ex1, g1, g2, g3⟩ := hu2 x (List.mem_of_getElem? ex)
          subst ex1
          walk_at "wp"
          refine ⟨_, (tups_of s1).sqT g1, rfl, _, _, rfl, _, _, rfl, rfl, by decide, fun p3 n3 => ?_⟩
          have s3 := same_new n3 (.tup [.int (i : Nat), .int (j : Nat)])
          refine cat_ask (.inl (.inl upd_same)) (((tups_of s1).trans (tups_of s3)).sqT g2) (by simp; omega) fun r3 H3 s4 e3 => ⟨by decide, fun p4 n4 => ⟨acc, ?_, by omega, ?_⟩⟩
          · exact same_new n4 _ _ _ (s4 _ _ (s3 _ _ eD))
          · have s5 := same_new n4 (.tup [.ref r3, v1])
            have t5 := (tups_of (s3.trans s4)).trans (tups_of s5)
            have eD5 := s5 _ _ (s4 _ _ (s3 _ _ eD))
            have t6 := tups_lst eD5 (.lst (acc ++ [.ref p4]))
            refine .step nD ((s1.trans (s3.trans s4)).trans s5) lacc ⟨by simp [r1], fun u hu' => ?_⟩
            rcases List.mem_append.mp hu' with h | h
            · exact (r2 u h).keep (t5.trans t6) (Nat.le_refl _)
            · rw [List.mem_singleton.mp h]
              exact ⟨p4, r3, _, v1, rfl, t6.sqT (.inl (.inl upd_same)), t6.sqT ((tups_of s5).sqT e3), by simp; omega⟩
        · rintro D acc H1 nD s1 eD lacc ⟨r1, r2⟩
          have hf1 := s1 _ _ (sc _ _ (sb _ _ hfa))
          refine ext_ask hf1 eD (by omega) ?_
          have t6 := tups_lst hf1 (.lst (us' ++ acc))
          refine ⟨same_at nf (((sa.trans sb).trans sc).trans s1) _, _, upd_same, by rw [List.length_append]; omega, fun u hu' => ?_, ?_, ?_⟩
          · rcases List.mem_append.mp hu' with h | h
            · exact (hua u h).keep ((tc.trans (tups_of s1)).trans t6) (Nat.le_refl _)
            · exact (r2 u h).keep t6 (Nat.le_refl _)
          · rw [upd_ne (by rintro rfl; rw [upd_same] at nl; cases nl)]
            exact s1 _ _ (sc _ _ (sb _ _ ela))
          · exact ((ta.trans tc).trans (tups_of s1)).trans t6
      · rintro σ Ha ⟨x4, x5, x6, x7, us', rfl, sa, hfa, hla, hua, ela, ta⟩
        refine ⟨_, _, _, _, _, _, rfl, sa, us', hfa, ?_, hua⟩
        have e9 : ((bodiesL ks ps).map (cntB n)).take bs.length = (bodiesL ks ps).map (cntB n) := List.take_of_length_le (by rw [List.length_map]; omega)
        rw [hla, es, e9]
        omega
    · rintro σ H1 ⟨x2, x3, x4, x5, x6, x7, us, rfl, sm, hf, hlen, hus⟩
      walk_at "wp"
      refine q H1 f us nf sm hf ?_ hus
      rw [hlen, List.take_of_length_le (by simp; omega)]
      rfl
theorem ok_statements_in (T : Top K mg w) : ∀ n : Nat, FnR P w K mg base CX0 (n + 2) (He.ga K "statements_in") (spStsIn K n)
  | 0 => fun A outer s H us vs Q E _ _ _ h => by
    obtain ⟨_, _, _, _, _, _, h, _⟩ := h
    exact h.elim
  | n + 1 => st_statements_in T (ok_statements_in T n)
end
end K91
set_option Elab.async false
set_option linter.all false
set_option maxRecDepth 100000
/-! len(set(t)) of a tuple of distinct texts. -/
namespace SS
open PySem PySem.Spec PyProof.Rows
section
variable {prog : Program} {w : World} {A : Around} {R : Result → Shared → Prop} {I : Addr} {fp wr : List Addr} {G : Array GenState → Array GenState → Prop} {n : Nat} {P : Nat → Value → Prop} {St : Nat → Shared → Prop}
theorem loopN (W : WalksS prog w A.in1 I fp wr G n P St) (S : Addr) (hSf : S ∉ fp) (xs : List Str) (hsz : xs.length = n) (hn1 : xs.Nodup) (hnb : n + 1 < scanBound)
    (hval : ∀ i v, P i v → ∃ t, v = .str (xs.getD i Str.empty) t) :
    ∀ (k i : Nat) (s : Shared), n - i = k → i ≤ n → St i s →
      s.heap.SetOf (PySem.strKind prog w) S (fun k' => (xs.take i).any (· == k')) i →
      (∀ s', Moved (S :: wr) G s s' → s'.heap.SetOf (PySem.strKind prog w) S (fun k' => (xs.take n).any (· == k')) n → R (.ok (.ret .none)) s') →
      codeAny (model prog w) A (.builtin "set.update.loop" ⟨[.ref S, .ref I], []⟩) R s := by
  have hSw : S ∉ wr := fun h => hSf (W.sub _ h)
  have hsub : ∀ b ∈ wr, b ∈ S :: wr := fun b hb => List.mem_cons_of_mem _ hb
  intro k
  induction k with
  | zero =>
    intro i s hk hi hst hS hR
    have hin : i = n := by omega
    subst hin
    refine codeAny_builtin PyProof.Rows.F.entry_set_update_loop ?_
    rw [Around.under_plainId PyProof.Rows.F.plain_set_update_loop _]
    show wpAny _ A.in1 (pyNext (.ref I) >>= _) _ _ s
    refine wpAny_bind (W.done s _ _ hst fun s' hm => ?_)
    show wpAny _ A.in1 (ret Value.none) _ _ s'
    exact wpAny_pure (hR s' (hm.mono hsub) (by
      obtain ⟨o, es, ep, t, ho, rest⟩ := hS
      exact ⟨o, es, ep, t, hm.heap S _ hSw ho, rest⟩))
  | succ k ih =>
    intro i s hk hi hst hS hR
    have hlt : i < n := by omega
    refine codeAny_builtin PyProof.Rows.F.entry_set_update_loop ?_
    rw [Around.under_plainId PyProof.Rows.F.plain_set_update_loop _]
    show wpAny _ A.in1 (pyNext (.ref I) >>= _) _ _ s
    refine wpAny_bind (W.item i s _ _ hlt hst fun v s' hP hst' hm => ?_)
    obtain ⟨t, rfl⟩ := hval i v hP
    have hS' : s'.heap.SetOf (PySem.strKind prog w) S (fun k' => (xs.take i).any (· == k')) i := by
      obtain ⟨o, es, ep, tb, ho, rest⟩ := hS
      exact ⟨o, es, ep, tb, hm.heap S _ hSw ho, rest⟩
    show wpAny _ A.in1 (holding [Value.str (xs.getD i Str.empty) t] (setAdd S (.str (xs.getD i Str.empty) t)) >>= _) _ _ s'
    refine wpAny_bind (wpAny_holding ?_)
    unfold setAdd
    refine wpAny_holding ?_
    refine wpAny_bind ((PySem.strKind prog w).pyHash (k := xs.getD i Str.empty) (strKind_is _ _ _ _) ?_)
    refine wpAny_setAddHashed_of (knd := PySem.strKind prog w) (s := { s' with toks := s'.toks + 1 }) (strKind_is _ _ _ _) rfl hS' (by omega) fun h' hsb hS2 => ?_
    have hSi : h'.SetOf (PySem.strKind prog w) S (fun k' => (xs.take (i + 1)).any (· == k')) (i + 1) := by
      have ei : xs[i]? = some (xs.getD i Str.empty) := by
        rw [List.getD_eq_getElem?_getD, List.getElem?_eq_getElem (by omega)]; rfl
      have no : (xs.take i).any (· == xs.getD i Str.empty) = false := by
        rw [List.any_eq_false]
        intro z hz hb
        have hb : z = xs.getD i Str.empty := by simpa using hb
        obtain ⟨j, hj, ez⟩ := List.mem_iff_getElem.mp hz
        rw [List.length_take] at hj
        rw [List.getElem_take] at ez
        have e2 : xs[j]'(by omega) = xs[i]'(by omega) := by
          rw [ez, hb]
          exact (Option.some.inj (by rw [← ei, List.getElem?_eq_getElem (by omega)])).symm
        exact List.pairwise_iff_getElem.mp hn1 j i (by omega) (by omega) (by omega) e2
      refine SetOf_congr hS2 (fun k' => ?_) (by simp only [no]; rfl)
      show ((xs.take i).any (· == k') || decide (k' = xs.getD i Str.empty)) = (xs.take (i + 1)).any (· == k')
      rw [List.take_add_one, ei, List.any_append]
      congr 1
      by_cases e : k' = xs.getD i Str.empty
      · subst e; simp
      · have hb : (xs.getD i Str.empty == k') = false := by simpa [beq_iff_eq] using (fun h' : xs.getD i Str.empty = k' => e h'.symm)
        simp only [Option.toList_some, List.any_cons, List.any_nil, hb, Bool.or_false, decide_eq_false e]
    refine wpAny_pure ⟨plainId_quiet PyProof.Rows.F.plain_set_update_loop _, ih (i + 1) _ (by omega) hlt (W.frame _ s' _ _ hst' (Nat.le_succ _) fun b hb o e => ?_) hSi fun s'' hm'' hS'' => ?_⟩
    · rw [hsb.2 b (fun h : b = S => hSf (by rw [← h]; exact hb))]; exact e
    · refine hR s'' (Moved.trans W.gtrans ((hm.mono hsub).then_heap (Nat.le_succ _) fun b o hb e => ?_) hm'') hS''
      rw [hsb.2 b (fun h : b = S => hb (by rw [h]; exact List.mem_cons_self))]; exact e
end
section
variable {prog : Program} {w : World} {A : Around} {E : Value → Shared → Prop} {s : Shared}
set_option maxHeartbeats 3200000 in
theorem call_set_tupleN {l : Addr} {items : Array Value} {xs : List Str} {Q : Value → Shared → Prop}
    (hh : A.handled = none) (hl : s.heap.IsTuple l items) (hi : PyProof.Rows.StrsAre items.toList xs) (hn1 : xs.Nodup) (hnb : xs.length + 1 < scanBound)
    (h : ∀ (h' : Heap) (tk : Nat), h'.SetOf (PySem.strKind prog w) s.heap.objs.size (fun k' => (xs.take items.size).any (· == k')) items.size →
      (∀ b o, b < s.heap.objs.size → s.heap.get? b = some o → h'.get? b = some o) → Q (.ref s.heap.objs.size) { s with heap := h', toks := tk }) :
    wpAny (model prog w) A (call (.type "set") [.ref l]) Q E s := by
  obtain ⟨c, tl, hmro⟩ := PySem.F.called_set.mro
  have hmade := PySem.F.called_set.made
  have hsub := PySem.F.called_set.sub
  refine wpAny_call (codeAny_of_tree ?_)
  show wpAny _ _ (callAny (.type "set") _) _ _ _
  refine wpAny_pure ⟨Code.quiet_builtin _ (by decide +kernel), codeAny_builtin PySem.F.entry_type_call ?_⟩
  rw [Around.under_plain (weight_type_call_type "set" [.ref l] []) rfl]
  have h1 := PySem.F.called_set.notType
  have h2 := PySem.F.called_set.canCreate
  have hct := PySem.F.typeCall_set_1 (.ref l)
  repeat (any_goals (first | assumption | wp_step))

  refine codeAny_mono (code_set_new_1 (.ref l) (E := E) (Q₁ := fun obj s₁ => ∃ led : Bool, obj = .ref s.heap.objs.size ∧ s₁ = { s with heap := s.heap.push { cls := .type "set", dict := none, data := .set #[] 0 (.fresh 0 0 led) } }) fun led => ⟨led, rfl, rfl⟩) fun r s₁ hr => ?_
  cases r with
  | error e => exact hr
  | ok fl =>
    cases fl with
    | ret obj =>
      obtain ⟨led, rfl, rfl⟩ := hr
      have hS : (s.heap.push { cls := .type "set", dict := none, data := .set #[] 0 (.fresh 0 0 led) }).get? s.heap.objs.size = some { cls := .type "set", dict := none, data := .set #[] 0 (.fresh 0 0 led) } := Heap.get?_push_size _ rfl
      have hT : Shared.TypeIs { s with heap := s.heap.push { cls := .type "set", dict := none, data := .set #[] 0 (.fresh 0 0 led) } } (.ref s.heap.objs.size) "set" := ⟨_, hS, rfl⟩
      have hli := PySem.F.called_set.init.lookup
      have hbi := PySem.F.called_set.init.bind (.ref s.heap.objs.size)
      repeat (any_goals (first | assumption | wp_step))

      refine codeAny_mono (codeAny_call_builtin (R := wants (fun r s₂ => r = .none ∧ ∃ h' tk, s₂ = { s with heap := h', toks := tk } ∧
          h'.SetOf (PySem.strKind prog w) s.heap.objs.size (fun k' => (xs.take items.size).any (· == k')) items.size ∧
          (∀ b o, b < s.heap.objs.size → s.heap.get? b = some o → h'.get? b = some o)) E) PySem.F.called_set.init.plain PySem.F.entry_set_init (check_set_init_1 hT ?_)) fun r₂ s₂ hr₂ => ?_
      · obtain ⟨ol, hol, hcl, nl, hdl⟩ := hl
        obtain ⟨ocls, odict, odata, oslots⟩ := ol
        simp only at hcl hdl
        subst hcl; subst hdl
        have hol' : (s.heap.push { cls := .type "set", dict := none, data := .set #[] 0 (.fresh 0 0 led) }).get? l = some { cls := .type "tuple", dict := odict, data := .seq items nl, slots := oslots } := Heap.get?_push_of_some _ hol
        have hsls := PySem.F.sub_tuple_set
        have hslf := PySem.F.sub_tuple_frozenset
        have hne : (Value.type "tuple" == Value.type "dict") = false := by decide
        have hl1 : (s.heap.push { cls := .type "set", dict := none, data := .set #[] 0 (.fresh 0 0 led) }).IsTuple l items := ⟨_, hol', rfl, nl, rfl⟩
        unfold Builtin.«set.__init__» noKeywords Builtin.Frozenset.updateFrom
        generalize hPI : pyIter = PI
        wp_walk
        subst hPI

        refine wpAny_pyIter_tuple hl1 ?_
        refine wpAny_bind (wpAny_runValue ?_)
        have hlS : l < s.heap.objs.size := Heap.lt_size hol
        have hh3 : A.in1.in1.in1.handled = none := by simp [hh]
        have hneI : l ≠ (s.heap.push { cls := .type "set", dict := none, data := .set #[] 0 (.fresh 0 0 led) }).objs.size := by
          rw [Heap.size_push]; exact Nat.ne_of_lt (Nat.lt_succ_of_lt hlS)
        have hSf : s.heap.objs.size ∉ [(s.heap.push { cls := .type "set", dict := none, data := .set #[] 0 (.fresh 0 0 led) }).objs.size, l] := by
          rw [Heap.size_push]; simp only [List.mem_cons, List.mem_singleton, List.not_mem_nil, or_false, not_or]
          exact ⟨Nat.ne_of_lt (Nat.lt_succ_self _), Nat.ne_of_gt hlS⟩
        have hsz : xs.length = items.size := by rw [← StrsAre.len_eq hi, Array.length_toList]
        have hval : ∀ (i : Nat) (v : Value), items[i]? = some v → ∃ t, v = .str (xs.getD i Str.empty) t := fun i v hv => strs_at hi i v (by rw [Array.getElem?_toList]; exact hv)
        refine loopN ((Walks.tuple hh3 _ l hneI items).toS) s.heap.objs.size
          hSf xs hsz hn1 (by rw [← hsz]; exact hnb) hval (items.size - 0) 0 _ (by omega) (Nat.zero_le _)
          ⟨⟨_, Heap.get?_push_size _ rfl, rfl, rfl⟩, (hl1.push _)⟩ ?hS0 ?hR
        case hS0 =>
          have hget : ((s.heap.push { cls := .type "set", dict := none, data := .set #[] 0 (.fresh 0 0 led) }).push { cls := .type "tuple_iterator", data := .fields #[.ref l, .int 0 0] }).get? s.heap.objs.size
              = some { cls := .type "set", dict := none, data := .set #[] 0 (.fresh 0 0 led) } := Heap.get?_push_of_some _ hS
          exact PyProof.Rows.SetOf_congr ((PyProof.Rows.setObjOf_fresh (knd := PySem.strKind prog w) led).setOf hget (by unfold scanBound; omega)) (fun _ => rfl) rfl
        case hR =>
          intro s' hm hS'
          obtain ⟨h', g', d', tk', os'⟩ := s'
          have eg : g' = s.gens := hm.gens
          have ed : d' = s.drawn := hm.drawn
          have eo : os' = s.os := hm.os
          subst eg; subst ed; subst eo
          show wpAny _ _ _ _ _ _
          refine wpAny_pure ?_
          show wpAny _ _ (ret Value.none) _ _ _
          refine wpAny_pure ⟨rfl, h', tk', rfl, hS', fun b o hb e => ?_⟩
          have hb1 : b ≠ s.heap.objs.size := Nat.ne_of_lt hb
          have hb2 : b ≠ (s.heap.push { cls := .type "set", dict := none, data := .set #[] 0 (.fresh 0 0 led) }).objs.size := by
            rw [Heap.size_push]; exact Nat.ne_of_lt (Nat.lt_succ_of_lt hb)
          exact hm.heap b o (by simp only [List.mem_cons, List.mem_singleton, List.not_mem_nil, or_false, not_or]; exact ⟨hb1, hb2⟩) (Heap.get?_push_of_some _ (Heap.get?_push_of_some _ e))

      · cases r₂ with
        | error e => exact hr₂
        | ok fl₂ =>
          cases fl₂ with
          | ret r =>
            obtain ⟨rfl, h', tk, rfl, hS', hk'⟩ := hr₂
            repeat (any_goals (first | assumption | wp_step))
            exact h _ _ hS' hk'
          | _ => exact hr₂.elim
    | _ => exact hr.elim

end
end SS
namespace L2
open PySem PySem.Spec PyProof.Rows
section
variable {X : Cx}
def tLenSetN (K : PySem.W.Frag) (ta : TE) : TE := fun σ H Q => ta σ H fun x H1 => ∃ l, ∃ xs : List Str, x = .ref l ∧ SqT K H1 l (xs.map V.str) ∧ xs.Nodup ∧ xs.length ≤ 1000 ∧ Q (.int xs.length) H1
theorem pe_lenSetN {a : Expr} {ta : TE} {p p2 q pos : Pos} (hc : X.calm = true) (hg : Gl X "len") (hm : X.mg "len" = none) (hg2 : Gl X "set") (hm2 : X.mg "set" = none) (ha : PE X a ta)
    (na : starEach [a] X.env = (false, eval a X.env) :: starEach [] X.env := by rfl) : PE X (.Call (.Name "len" p) [.Call (.Name "set" p2) [a] [] q] [] pos) (tLenSetN X.K ta) := by
  refine ⟨fun pins s σ H Q I h => ?_⟩
  refine Call_ (ld_blt I hg hm boot_len ?_)
  refine PyProof.Rows.callWith_builtin1 (PyProof.Rows.args_cons ?_ rfl) rfl rfl
  refine Call_ (ld_blt I hg2 hm2 boot_set ?_)
  refine PyProof.Rows.callWith_type1 (PyProof.Rows.args_cons (thn (ha.run pins s σ H _ I h) fun v s1 ⟨x, H1, I1, r1, q1⟩ => PyProof.Rows.args_nil ?_) na) na rfl
  obtain ⟨l, xs, rfl, hq, h1, hb, q1⟩ := q1
  cases r1
  obtain ⟨its, r, pl, hz⟩ := I1.tuple hq
  refine SS.call_set_tupleN (I1.ok.hd hc) pl (by simpa using strsAre_of r) h1 (by unfold scanBound; omega) fun h' tk hS hk => PyProof.Rows.args_nil ?_
  have hl : its.toArray.size = xs.length := by rw [List.size_toArray, ← r.length, List.length_map]
  rw [hl] at hS
  obtain ⟨o, es, ep, t, ho, hex, hd, _, _, _, hf, hn⟩ := hS
  have I2 : Inv X pins σ H1 { s1 with heap := h', toks := tk } := I1.kept fun b o e => hk b o (Heap.lt_size e) e
  exact call_len_set ho hex hd hf (by rw [hn] <;> omega) ⟨.int xs.length, H1, I2.tok _, ⟨_, by rw [hn]⟩, q1⟩
end
end L2
set_option Elab.async false
set_option linter.all false
set_option maxRecDepth 100000
set_option maxHeartbeats 4000000
namespace K91
open PySem PySem.Spec PyProof.Rows L2
local macro_rules | `(tactic| walk_at "wp") => `(tactic| simp only [cxK, cxw, cxK', cxw', start1, start2, start3, start4, start5, tRet, tRetN, tAsg, gName, gTup, gCons, gNil, gSub, tDrop, tNext, tIfS, tIf, tVar, tC, tAndV, tOrV, tNotV, tAnd, tOr, tNot, tTest, tB, tCB, tCons, tNil, tOp, tUn, rI0, rI, rU, rEq, rNe, rIn, tChain, tFld, sFld, tSl, tPart, tNoPart, tTup, tLst, tCallR, tMethR, tMethO, tBM, tBM0, tM0, tM1, tDGet, tDIn, tDNotIn, tDNewK, tCmp, t2I, tIsN, tNotN, tYes, tLc_eq, tFor_eq, tLenSetN, iItems, iVals, iKeys, iRng1, tLock, tLockE, RZ.iZipA, iStr, iTup, iList, iEnum, wipe, List.map_cons, List.map_nil,
  List.length_cons, List.length_nil, Nat.reduceAdd, Nat.reduceSub, List.replicate_succ, List.replicate_zero, if_true, if_false, Bool.not_true, Bool.not_false, Bool.false_eq_true, reduceIte,
  List.set_cons_zero, List.set_cons_succ, List.getElem?_cons_zero, List.getElem?_cons_succ, Option.some.injEq, exists_eq_left', exists_eq_left, V.int.injEq, V.str.injEq, V.bl.injEq, V.ref.injEq, V.ty.injEq, List.cons.injEq, and_true, true_and, and_assoc, exists_and_left, List.nil_append, List.cons_append, List.append_nil])
local macro_rules | `(tactic| walk_at "st") => `(tactic| (refine sq ?_; walk_at "wp"))
section
variable {K : PySem.W.Frag} {H : Hp}
theorem Dt.strI {v : V} {x : Str} (h : Dt K H v (.str x)) : v = .str x ∧ x.length ≤ 100000 := by
  cases h with | str _ z => exact ⟨rfl, z⟩
theorem Dt.intI {v : V} {x : Int} (h : Dt K H v (.int x)) : v = .int x := by
  cases h with | int _ => rfl
theorem Dt.tupI {v : V} {ds : List PyData} (h : Dt K H v (.tuple ds)) : ∃ a xs, v = .ref a ∧ SqT K H a xs ∧ DtAll K H xs ds := by
  cases h with | tup h1 h2 => exact ⟨_, _, rfl, h1, h2⟩
theorem DtAll.consI {vs : List V} {d : PyData} {ds : List PyData} (h : DtAll K H vs (d :: ds)) : ∃ v us, vs = v :: us ∧ Dt K H v d ∧ DtAll K H us ds := by
  cases h with | cons h1 h2 => exact ⟨_, _, rfl, h1, h2⟩
theorem DtAll.nilI {vs : List V} (h : DtAll K H vs []) : vs = [] := by
  cases h; rfl
end
/-! ### what a program is -/
structure Fn91 where
  name : Str
  heads : List Str
  body : PyData
def Fn91.data (q : Fn91) : PyData := .tuple [.tuple (q.heads.map .str), q.body]
structure Box91 where
  name : Str
  rule : Str
  val : Int
def Box91.data (b : Box91) : PyData := .tuple [.str b.name, .str b.rule, .int b.val]
def rulesL : List Str := ["sum", "least", "greatest"]
def boxOk (b : Box91) : Prop := nameB b.name = true ∧ b.rule ∈ rulesL ∧ -limit ≤ b.val ∧ b.val ≤ limit
def boxesOk (bs : List Box91) : Prop := bs.length ≤ 8 ∧ (∀ b ∈ bs, boxOk b) ∧ (bs.map Box91.name).Nodup
def fnOk (q : Fn91) : Prop := nameB q.name = true ∧ q.heads.length ≤ 5 ∧ (∀ h ∈ q.heads, nameB h = true) ∧ q.heads.Nodup ∧ bodyB q.body = true
def fnsOk (fs : List Fn91) : Prop := 1 ≤ fs.length ∧ fs.length ≤ 12 ∧ (∀ q ∈ fs, fnOk q) ∧ (fs.map Fn91.name).Nodup ∧ ("main" : Str) ∈ fs.map Fn91.name
def kvz (ns : List Str) (vs : List V) : List (Key × V) := (ns.map Sum.inr).zip vs
def TabAt (K : PySem.W.Frag) (H : Hp) (a : Addr) (fs : List Fn91) : Prop := ∃ vs, H a = some (.dK (kvz (fs.map Fn91.name) vs)) ∧ DtAll K H vs (fs.map Fn91.data)
def RowsAt (K : PySem.W.Frag) (H : Hp) (l : Addr) (bs : List Box91) : Prop := ∃ vs, H l = some (.lst vs) ∧ DtAll K H vs (bs.map Box91.data)
theorem TabAt.same {K : PySem.W.Frag} {H H' : Hp} {a : Addr} {fs : List Fn91} (h : TabAt K H a fs) (s : Same H H') : TabAt K H' a fs := by
  obtain ⟨vs, h1, h2⟩ := h
  exact ⟨vs, s _ _ h1, h2.keep (tups_of s)⟩
theorem RowsAt.same {K : PySem.W.Frag} {H H' : Hp} {a : Addr} {bs : List Box91} (h : RowsAt K H a bs) (s : Same H H') : RowsAt K H' a bs := by
  obtain ⟨vs, h1, h2⟩ := h
  exact ⟨vs, s _ _ h1, h2.keep (tups_of s)⟩
theorem kvz_len {ns : List Str} {vs : List V} (h : vs.length = ns.length) : (kvz ns vs).length = ns.length := by
  unfold kvz
  rw [List.length_zip, List.length_map]
  omega
theorem kvz_get {ns : List Str} {vs : List V} {i : Nat} {n : Str} {v : V} (h1 : ns[i]? = some n) (h2 : vs[i]? = some v) : (kvz ns vs)[i]? = some (.inr n, v) := by
  unfold kvz
  rw [List.getElem?_zip_eq_some]
  exact ⟨by rw [List.getElem?_map, h1]; rfl, h2⟩
theorem kvz_of {ns : List Str} {vs : List V} {i : Nat} {q : Key × V} (h : (kvz ns vs)[i]? = some q) : ∃ n, ns[i]? = some n ∧ q.1 = .inr n ∧ vs[i]? = some q.2 := by
  obtain ⟨k, v⟩ := q
  unfold kvz at h
  rw [List.getElem?_zip_eq_some, List.getElem?_map] at h
  obtain ⟨h1, h2⟩ := h
  cases e : ns[i]? with
  | none => rw [e] at h1; cases h1
  | some n => rw [e] at h1; exact ⟨n, rfl, (Option.some.inj h1).symm, h2⟩
theorem kvz_val : ∀ {ns : List Str} {vs : List V} {i : Nat} {n : Str} {v : V}, ns.Nodup → ns[i]? = some n → vs[i]? = some v → valV (kvz ns vs) (.inr n) = some v
  | [], _, _, _, _, _, h, _ => by cases h
  | x :: r, [], i, _, _, _, _, h => by cases i <;> cases h
  | x :: r, u :: us, 0, n, v, _, h1, h2 => by
    obtain rfl := Option.some.inj h1
    obtain rfl := Option.some.inj h2
    unfold valV kvz
    simp
  | x :: r, u :: us, i + 1, n, v, hn, h1, h2 => by
    have ih := kvz_val (ns := r) (vs := us) (i := i) (List.nodup_cons.mp hn).2 (by simpa using h1) (by simpa using h2)
    have ne : x ≠ n := by
      rintro rfl
      exact (List.nodup_cons.mp hn).1 (List.mem_of_getElem? (i := i) (by simpa using h1))
    unfold valV kvz at ih ⊢
    simp only [List.map_cons, List.zip_cons_cons, List.find?_cons]
    rw [show decide ((Sum.inr x : Key) = Sum.inr n) = false by simpa using ne]
    exact ih
theorem kvz_none : ∀ {ns : List Str} {vs : List V} {n : Str}, n ∉ ns → valV (kvz ns vs) (.inr n) = none
  | [], _, _, _ => rfl
  | x :: r, [], _, _ => rfl
  | x :: r, u :: us, n, h => by
    have ih := kvz_none (ns := r) (vs := us) (n := n) fun z => h (List.mem_cons_of_mem _ z)
    have ne : x ≠ n := by
      rintro rfl
      exact h List.mem_cons_self
    unfold valV kvz at ih ⊢
    simp only [List.map_cons, List.zip_cons_cons, List.find?_cons]
    rw [show decide ((Sum.inr x : Key) = Sum.inr n) = false by simpa using ne]
    exact ih
section
variable {P : Program} {w : World} {K : PySem.W.Frag} {mg : Str → Option Value} {base : Heap}
theorem nodup_take {l : List Str} (h : l.Nodup) {i : Nat} {x : Str} (e : l[i]? = some x) : (l.take i).contains x = false := by
  rw [Bool.eq_false_iff]
  intro c
  rw [List.contains_iff_mem] at c
  obtain ⟨j, hj, ej⟩ := List.mem_iff_getElem.mp c
  rw [List.length_take] at hj
  rw [List.getElem_take] at ej
  obtain ⟨hi, ei⟩ := List.getElem?_eq_some_iff.mp e
  exact List.pairwise_iff_getElem.mp h j i (by omega) hi (by omega) (by rw [ej, ei])
theorem cut_take {vs : List V} {i : Nat} (h : i ≤ vs.length) : cutV vs none (some (i : Int)) = vs.take i := by
  unfold cutV
  rw [HT.sIx_nat, HT.sIx_none]
  simp [Nat.min_eq_left h]
def spBox (K : PySem.W.Frag) : Sp := fun vs H Q _ => ∃ l bs, ∃ i : Nat, vs = [.ref l, .int i] ∧ RowsAt K H l bs ∧ boxesOk bs ∧ i < bs.length ∧ ∀ H', Same H H' → Q .non H'
theorem ok_check_box (T : Top K mg w)  : FnR P w K mg base CX0 20 (He.ga K "check_box") (spBox K) := by
  obtain ⟨fd, F⟩ := T.def_ d_check_box (List.mem_of_getElem? (i := 10) rfl)
  refine mkR F sc_check_box (fun _ _ _ _ _ _ us hl => match us, hl with | [_, _], _ => rfl) (fun vs H Q E h => ?_) (fun cdv A outer s H vs Q E hr h => ?_)
  · obtain ⟨l, bs, i, rfl, _⟩ := h; rfl
  obtain ⟨l, bs, i, rfl, hr1, hb, hi, q⟩ := h
  have G_is_name := ok_is_name (P := P) (w := w) (base := base) T
  have G_is_value := ok_is_value (P := P) (w := w) (base := base) T
  refine ⟨_, pss_cons (ps_set (i := 2) sc_check_box.nd rfl (by first | exact Or.inl rfl | exact Or.inr rfl) (pe_ix (r := rIxL K) ix_list (pv 0) (pv 1) (fun _ _ => rfl)))
    (pss_cons (ps_if (PW.pt (pw_or (pt_not (pt_val (pe_callB (r := rIsi K) call_isi (by rfl) (T.free "isinstance" (by decide +kernel)) (by decide +kernel) (pa_cons (pv 2) (pa_cons (pe_bltn (v := .ty "tuple") (u := .type "tuple") (by rfl) (T.free "tuple" (by decide +kernel)) (by decide +kernel) rfl) pa_nil))))) (pw_or (pt_cmpR (op_ne) (pe_callB (r := fun xs H Q => ∃ x n, xs = [x] ∧ LenV K x H n ∧ Q (.int n) H) call_len (by rfl) (T.free "len" (by decide +kernel)) (by decide +kernel) (pa_cons (pv 2) pa_nil)) pe_int (nomark _)) (pw_or (pt_not (pt_val (pcall G_is_name hr (T.glo "is_name" (by decide +kernel)) (pa_cons (pe_ix (r := rIxT K) ix_tup (pv 2) pe_int (fun _ _ => rfl)) pa_nil)))) (pw_or1 (pt_not (pt_val (pcall G_is_value hr (T.glo "is_value" (by decide +kernel)) (pa_cons (pe_ix (r := rIxT K) ix_tup (pv 2) pe_int (fun _ _ => rfl)) pa_nil))))))))) (pss_one ps_never) pss_nil)
    (pss_one (ps_if (PW.pt (pw_or (pt_not (pt_val (pe_callB (r := rIsi K) call_isi (by rfl) (T.free "isinstance" (by decide +kernel)) (by decide +kernel) (pa_cons (pe_ix (r := rIxT K) ix_tup (pv 2) pe_int (fun _ _ => rfl)) (pa_cons (pe_bltn (v := .ty "str") (u := .type "str") (by rfl) (T.free "str" (by decide +kernel)) (by decide +kernel) rfl) pa_nil))))) (pw_or (pt_cmpR (r := rIn K true) op_notIn_seq (pe_ix (r := rIxT K) ix_tup (pv 2) pe_int (fun _ _ => rfl)) (pe_gref (T.ref "RULES" (by decide +kernel))) rfl) (pw_or1 (pt_cmpR (r := rIn K false) op_in_seq (pe_ix (r := rIxT K) ix_tup (pv 2) pe_int (fun _ _ => rfl)) (pe_lc (own := [("each", 3)]) (g := (gName 3)) (tt := tYes) rfl sc_check_box.nd (pi_list (pe_slice (r := rSlL K) sl_list (pv 0) po_none (po_some (pv 1)))) (blkOk_by (own := [("each", 3)]) (N := ["boxes", "position", "box", "each"]) (sc := defScope s_check_box) (by decide +kernel)) (fun _ _ _ _ _ => (pg_name (i := 3) sc_check_box.nd rfl (by first | exact Or.inl rfl | exact Or.inr rfl))) (fun _ _ _ _ _ => pts_nil) (fun _ _ _ _ _ => (pe_ix (r := rIxT K) ix_tup (pv 3) pe_int (fun _ _ => rfl)))) rfl))))) (pss_one ps_never) pss_nil))), ?_⟩
  have zl := line_big
  obtain ⟨vs, hl, hA⟩ := hr1
  have hn := dta_len hA
  rw [List.length_map] at hn
  obtain ⟨hb1, hb2, hb3⟩ := hb
  have ei : bs[i]? = some bs[i] := List.getElem?_eq_getElem hi
  obtain ⟨v, hv, hd⟩ := dta_get hA (i := i) (d := bs[i].data) (by rw [List.getElem?_map, ei]; rfl)
  obtain ⟨o1, o2, o3, o4⟩ := hb2 _ (List.getElem_mem hi)
  obtain ⟨a, xs, rfl, hT, hX⟩ := hd.tupI
  obtain ⟨v0, _, rfl, g0, hX⟩ := hX.consI
  obtain ⟨v1, _, rfl, g1, hX⟩ := hX.consI
  obtain ⟨v2, _, rfl, g2, hX⟩ := hX.consI
  obtain rfl := hX.nilI
  have g0' := g0
  have g1' := g1
  have g2' := g2
  obtain ⟨rfl, z0⟩ := g0.strI
  obtain ⟨rfl, z1⟩ := g1.strI
  obtain rfl := g2.intI
  walk_at "st"
  refine ixL_at i (.of hl) hv ?_
  walk_at "st"
  refine isi_ask hd.dp (kit_tuple _) ⟨_, rfl, iteFb (by rw [isi_tupleE]; rfl) ⟨3, .inr ⟨_, hT, rfl⟩, rfl, iteFb rfl (ixT_at 0 hT rfl ⟨_, _, rfl, g0', fun H1 s1 => ⟨_, rfl, iteFb (by simp [isNameD, o1]) ?_⟩⟩)⟩⟩
  refine ixT_at 2 ((tups_of s1).sqT hT) rfl ⟨_, _, rfl, g2'.keep (tups_of s1), fun H2 s2 => ⟨_, rfl, iteFb (by simp [isValD, o3, o4]) ?_⟩⟩
  have s12 := s1.trans s2
  have hT2 := (tups_of s12).sqT hT
  refine ixT_at 1 hT2 rfl (isi_ask (g1'.keep (tups_of s12)).dp (kit_str _) ⟨_, rfl, iteFb (by rw [isi_strE]; rfl) ?_⟩)
  refine ixT_at 1 hT2 rfl ⟨_, .inr (T.tup ("RULES", rulesL) (by decide +kernel) H2), rfl, rfl, ?_⟩
  rw [show ("RULES", rulesL).2 = rulesL from rfl, in_strs]
  refine iteFb (by simpa using o2) (ixT_at 0 hT2 rfl ?_)
  have hA2 := hA.keep (tups_of s12)
  have hl2 := s12 _ _ hl
  refine ⟨l, vs, rfl, .of hl2, fun p np => ⟨p, rfl, ⟨_, .of upd_same⟩, ?_⟩⟩
  have lc : (cutV vs none (some (i : Int))) = vs.take i := cut_take (by omega)
  rw [lc]
  have s3 := same_new np (.lst (vs.take i))
  refine lcGo (walk_list (xs := vs.take i)) (fun j acc _ => acc = ((bs.map Box91.name).take j).map V.str) (fun _ _ => rfl) (fun H' s' => .of (s' _ _ upd_same)) ?_ ?_
  · rintro D j x acc H3 H4 nD hj s4 eD la ra ⟨rfl, ex⟩
    rw [List.length_take] at hj
    have ex2 : vs[j]? = some x := by rw [← ex, List.getElem?_take_of_lt (by omega)]
    have ej : bs[j]? = some bs[j] := List.getElem?_eq_getElem (by omega)
    obtain ⟨v5, h5, g5⟩ := dta_get hA2 (i := j) (d := bs[j].data) (by rw [List.getElem?_map, ej]; rfl)
    rw [ex2] at h5
    obtain rfl := Option.some.inj h5
    obtain ⟨a5, xs5, rfl, hT5, hX5⟩ := g5.tupI
    obtain ⟨w0, _, rfl, k0, hX5⟩ := hX5.consI
    obtain ⟨rfl, _⟩ := k0.strI
    walk_at "wp"
    refine ixT_at 0 ((tups_of (s3.trans s4)).sqT hT5) rfl ⟨acc, eD, by omega, .step nD s4 la ?_⟩
    show acc ++ _ = _
    rw [ra, List.take_add_one, List.getElem?_map, ej, List.map_append]
    rfl
  · rintro D acc H3 nD s4 eD la ra
    refine ⟨D, rfl, acc, .inl (.of eD), rfl, by rw [ra]; exact all_flat _, ?_⟩
    rw [ra, in_strs]
    refine iteFb ?_ (q H3 ((s12.trans s3).trans s4))
    rw [List.length_take, Nat.min_eq_left (by omega)]
    exact nodup_take hb3 (by rw [List.getElem?_map, ei]; rfl)
theorem lcAllT {K : PySem.W.Frag} {j : Nat} {σ : L2.St} {H : Hp} {a : Addr} {us : List V} {ds : List PyData} {f : PyData → Bool} {Q : VK} (hj : j < σ.length) (hT : SqT K H a us) (hA : DtAll K H us ds) (hz : ds.length < sizeLine) (q : ∀ D H', Same H H' → H' D = some (.lst ((ds.map f).map V.bl)) → Q (.ref D) H') :
    LcGo (Itt K a) (gName j) tYes (tCallR (spD1 K f) (tCons (tVar j) tNil)) [j] σ H Q := by
  have hl := dta_len hA
  refine lcGo walk_tup (fun i acc _ => acc = (ds.take i).map fun d => V.bl (f d)) (fun _ _ => rfl) (fun H1 sm => (tups_of sm).sqT hT) ?_ ?_
  · rintro D i x acc H1 H2 nD hi sm hD hl2 hR ⟨rfl, hx⟩
    obtain ⟨d, hd, g⟩ := dta_of hA hx
    have e1 : (((wipe σ [j]).set j (some x))[j]?) = some (some x) := by
      rw [List.getElem?_set_self]
      rw [wipe_length]
      exact hj
    refine ⟨by simp [wipe], ?_⟩
    simp only [tYes, if_true]
    refine ⟨x, e1, x, d, rfl, g.keep (tups_of sm), fun H3 s3 => ⟨acc, s3 _ _ hD, by omega, .step nD (sm.trans s3) hl2 ?_⟩⟩
    rw [hR, List.take_add_one, hd]
    simp
  · rintro D acc H1 nD sm hD hl2 hR
    refine q D H1 sm ?_
    rw [hD, hR, List.take_of_length_le (by omega), List.map_map]
    rfl
theorem dta_strs {K : PySem.W.Frag} {H : Hp} : ∀ {us : List V} {hs : List Str}, DtAll K H us (hs.map .str) → us = hs.map V.str
  | _, [], h => h.nilI
  | _, x :: r, h => by
    obtain ⟨v, us, rfl, h1, h2⟩ := DtAll.consI h
    obtain ⟨rfl, _⟩ := h1.strI
    rw [dta_strs h2]
    rfl
def spParams (K : PySem.W.Frag) : Sp := fun vs H Q _ => ∃ f v, ∃ hs : List Str, vs = [f, v] ∧ Dt K H v (.tuple (hs.map .str)) ∧ hs.length ≤ 5 ∧ (∀ h ∈ hs, nameB h = true) ∧ hs.Nodup ∧ ∀ H', Same H H' → Q .non H'
theorem ok_check_parameters (T : Top K mg w)  : FnR P w K mg base CX0 20 (He.ga K "check_parameters") (spParams K) := by
  obtain ⟨fd, F⟩ := T.def_ d_check_parameters (List.mem_of_getElem? (i := 11) rfl)
  refine mkR F sc_check_parameters (fun _ _ _ _ _ _ us hl => match us, hl with | [_, _], _ => rfl) (fun vs H Q E h => ?_) (fun cdv A outer s H vs Q E hr h => ?_)
  · obtain ⟨f, v, hs, rfl, _⟩ := h; rfl
  obtain ⟨f, v, hs, rfl, hd, h1, h2, h3, q⟩ := h
  have G_is_name := ok_is_name (P := P) (w := w) (base := base) T
  refine ⟨_, pss_cons (ps_if (PW.pt (pw_or (pt_not (pt_val (pe_callB (r := rIsi K) call_isi (by rfl) (T.free "isinstance" (by decide +kernel)) (by decide +kernel) (pa_cons (pv 1) (pa_cons (pe_bltn (v := .ty "tuple") (u := .type "tuple") (by rfl) (T.free "tuple" (by decide +kernel)) (by decide +kernel) rfl) pa_nil))))) (pw_or1 (pt_cmpR (op_gt) (pe_callB (r := fun xs H Q => ∃ x n, xs = [x] ∧ LenV K x H n ∧ Q (.int n) H) call_len (by rfl) (T.free "len" (by decide +kernel)) (by decide +kernel) (pa_cons (pv 1) pa_nil)) (pe_gint (T.int ("MOST_PARAMETERS", 5) (by decide +kernel))) (nomark _))))) (pss_one ps_never) pss_nil)
    (pss_one (ps_if (PW.pt (pw_or (pt_not (pt_val (pe_callB (r := rAll K) (cr_all rfl) (by rfl) (T.free "all" (by decide +kernel)) (by decide +kernel) (pa_cons (pe_lc (own := [("parameter", 2)]) (g := (gName 2)) (tt := tYes) rfl sc_check_parameters.nd (pi_tup (pv 1)) (blkOk_by (own := [("parameter", 2)]) (N := ["function", "parameters", "parameter"]) (sc := defScope s_check_parameters) (by decide +kernel)) (fun _ _ _ _ _ => (pg_name (i := 2) sc_check_parameters.nd rfl (by first | exact Or.inl rfl | exact Or.inr rfl))) (fun _ _ _ _ _ => pts_nil) (fun _ _ _ _ _ => (pcall G_is_name hr (T.glo "is_name" (by decide +kernel)) (pa_cons (pv 2) pa_nil)))) pa_nil)))) (pw_or1 (pt_cmpR (op_lt) (pe_lenSetN rfl (by rfl) (T.free "len" (by decide +kernel)) (by rfl) (T.free "set" (by decide +kernel)) (pv 1)) (pe_callB (r := fun xs H Q => ∃ x n, xs = [x] ∧ LenV K x H n ∧ Q (.int n) H) call_len (by rfl) (T.free "len" (by decide +kernel)) (by decide +kernel) (pa_cons (pv 1) pa_nil)) (nomark _))))) (pss_one ps_never) pss_nil)), ?_⟩
  have zl := line_big
  obtain ⟨a, xs, rfl, hT, hX⟩ := hd.tupI
  have hl := dta_len hX
  rw [List.length_map] at hl
  have ex := dta_strs hX
  walk_at "st"
  refine isi_ask hd.dp (kit_tuple _) ⟨_, rfl, iteFb (by rw [isi_tupleE]; rfl) ⟨_, .inr ⟨_, hT, rfl⟩, iteFb (by simp; omega) ?_⟩⟩
  refine ⟨⟨_, hT⟩, lcAllT (Nat.lt_succ_self 2) hT hX (by rw [List.length_map]; omega) fun D H1 s1 eD => ⟨D, _, rfl, .of eD, ⟨_, rfl, iteFb ?_ ⟨hs, (tups_of s1).sqT (ex ▸ hT), h3, by omega, _, .inr ⟨_, (tups_of s1).sqT hT, rfl⟩, iteFb (by simp; omega) (q H1 s1)⟩⟩⟩⟩
  have e1 : ((hs.map PyData.str).map isNameD).all id = true := by
    rw [List.all_eq_true]
    intro b hb
    obtain ⟨d, hd, rfl⟩ := List.mem_map.mp hb
    obtain ⟨x, hx, rfl⟩ := List.mem_map.mp hd
    simpa [isNameD] using h2 x hx
  rw [e1]
  rfl
theorem isiV {K : PySem.W.Frag} {H : Hp} {v : V} {t T : String} {b : Bool} {Q : VK} (ty : TyX K H v (.type t)) (k : kitB t T = some b) (q : Q (.bl b) H) : rIsi K [v, .ty T] H Q := ⟨v, .ty T, _, _, _, rfl, .ty T, ty, kit_ty k, q⟩
theorem isiLT {K : PySem.W.Frag} {H : Hp} {l tp : Addr} {xs : List V} {Q : VK} (h : H l = some (.lst xs)) (e : H tp = some (.tup [.ty "list", .ty "tuple"])) (q : Q (.bl true) H) : rIsiT K [.ref l, .ref tp] H Q :=
  ⟨.ref l, tp, _, .type "list", [.type "list", .type "tuple"], true, rfl, e, .cons (.ty _) (.cons (.ty _) .nil), .base (.lst h), kitAny_cons (b := true) (kit_ty (by decide +kernel)) (fun z => by cases z) (fun _ => rfl), q⟩
theorem same_unlock {H H' : Hp} {d : Addr} {u : HO} {od : Obj} (hd : H d = some u) (s : Same (upd H d (.frz od u)) H') : Same H (upd H' d u) := fun b v e => by
  by_cases c : b = d
  · subst c
    rw [upd_same, ← hd, e]
  · rw [upd_ne c]
    exact s _ _ (by rw [upd_ne c]; exact e)
theorem tups_lock {H : Hp} {d : Addr} {kvs : List (Key × V)} (hd : H d = some (.dK kvs)) (o : HO) : Tups H (upd H d o) := tups_put o hd (fun _ z => by cases z) fun _ _ z => by cases z
theorem tups_frz {H : Hp} {d : Addr} {od : Obj} {kvs : List (Key × V)} (hd : H d = some (.frz od (.dK kvs))) (o : HO) : Tups H (upd H d o) := tups_put o hd (fun _ z => by cases z) fun _ _ z => by cases z
def spTables (K : PySem.W.Frag) : Sp := fun vs H Q _ => ∃ a l fs bs, vs = [.ref a, .ref l] ∧ TabAt K H a fs ∧ RowsAt K H l bs ∧ fnsOk fs ∧ boxesOk bs ∧ ∀ H', Same H H' → Q .non H'
def spDefn (K : PySem.W.Frag) : Sp := fun vs H Q _ => ∃ f v, vs = [.str f.name, v] ∧ Dt K H v f.data ∧ fnOk f ∧ ∀ H', Same H H' → Q .non H'
theorem ok_check_definition (T : Top K mg w)  : FnR P w K mg base CX0 21 (He.ga K "check_definition") (spDefn K) := by
  obtain ⟨fd, F⟩ := T.def_ d_check_definition (List.mem_of_getElem? (i := 12) rfl)
  refine mkR F sc_check_definition (fun _ _ _ _ _ _ us hl => match us, hl with | [_, _], _ => rfl) (fun vs H Q E h => ?_) (fun cdv A outer s H vs Q E hr h => ?_)
  · obtain ⟨f, v, rfl, _⟩ := h; rfl
  obtain ⟨f, v, rfl, hd, ⟨h1, h2, h3, h4, h5⟩, q⟩ := h
  have G_is_name := ok_is_name (P := P) (w := w) (base := base) T
  have G_is_body := ok_is_body (P := P) (w := w) (base := base) T
  have G_check_parameters := ok_check_parameters (P := P) (w := w) (base := base) T
  refine ⟨_, pss_cons (ps_if (pt_not (pt_val (pcall G_is_name hr (T.glo "is_name" (by decide +kernel)) (pa_cons (pv 0) pa_nil)))) (pss_one ps_never) pss_nil)
    (pss_cons (ps_if (PW.pt (pw_or (pt_not (pt_val (pe_callB (r := rIsi K) call_isi (by rfl) (T.free "isinstance" (by decide +kernel)) (by decide +kernel) (pa_cons (pv 1) (pa_cons (pe_bltn (v := .ty "tuple") (u := .type "tuple") (by rfl) (T.free "tuple" (by decide +kernel)) (by decide +kernel) rfl) pa_nil))))) (pw_or1 (pt_cmpR (op_ne) (pe_callB (r := fun xs H Q => ∃ x n, xs = [x] ∧ LenV K x H n ∧ Q (.int n) H) call_len (by rfl) (T.free "len" (by decide +kernel)) (by decide +kernel) (pa_cons (pv 1) pa_nil)) pe_int (nomark _))))) (pss_one ps_never) pss_nil)
    (pss_cons (ps_expr (pcall G_check_parameters hr (T.glo "check_parameters" (by decide +kernel)) (pa_cons (pv 0) (pa_cons (pe_ix (r := rIxT K) ix_tup (pv 1) pe_int (fun _ _ => rfl)) pa_nil))))
    (pss_one (ps_if (pt_not (pt_val (pcall G_is_body hr (T.glo "is_body" (by decide +kernel)) (pa_cons (pe_ix (r := rIxT K) ix_tup (pv 1) pe_int (fun _ _ => rfl)) pa_nil)))) (pss_one ps_never) pss_nil)))), ?_⟩
  have zl := line_big
  obtain ⟨a, xs, rfl, hT, hX⟩ := hd.tupI
  obtain ⟨v0, _, rfl, g0, hX⟩ := hX.consI
  obtain ⟨v1, _, rfl, g1, hX⟩ := hX.consI
  obtain rfl := hX.nilI
  have zn : f.name.length ≤ 100000 := by
    have := h1
    unfold nameB at this
    simp only [Bool.and_eq_true, decide_eq_true_eq] at this
    omega
  walk_at "st"
  refine ⟨_, _, rfl, .str _ zn, fun H1 s1 => ⟨_, rfl, iteFb (by simp [isNameD, h1]) ?_⟩⟩
  have hT1 := (tups_of s1).sqT hT
  walk_at "st"
  refine isi_ask (hd.keep (tups_of s1)).dp (kit_tuple _) ⟨_, rfl, iteFb (by rw [isi_tupleE]; rfl) ⟨2, .inr ⟨_, hT1, rfl⟩, rfl, iteFb rfl ?_⟩⟩
  walk_at "st"
  refine ixT_at 0 hT1 rfl ⟨_, _, _, rfl, g0.keep (tups_of s1), h2, h3, h4, fun H2 s2 => ?_⟩
  walk_at "wp"
  refine ixT_at 1 ((tups_of s2).sqT hT1) rfl ⟨_, _, rfl, g1.keep (tups_of (s1.trans s2)), fun H3 s3 => ⟨_, rfl, iteFb (by rw [h5]; rfl) (q H3 ((s1.trans s2).trans s3))⟩⟩

theorem ok_check_tables (T : Top K mg w)  : FnR P w K mg base CX0 22 (He.ga K "check_tables") (spTables K) := by
  obtain ⟨fd, F⟩ := T.def_ d_check_tables (List.mem_of_getElem? (i := 13) rfl)
  refine mkR F sc_check_tables (fun _ _ _ _ _ _ us hl => match us, hl with | [_, _], _ => rfl) (fun vs H Q E h => ?_) (fun cdv A outer s H vs Q E hr h => ?_)
  · obtain ⟨a, l, fs, bs, rfl, _⟩ := h; rfl
  obtain ⟨a, l, fs, bs, rfl, hf, hr1, ⟨f1, f2, f3, f4, f5⟩, hb, q⟩ := h
  have G_check_box := ok_check_box (P := P) (w := w) (base := base) T
  have G_check_definition := ok_check_definition (P := P) (w := w) (base := base) T
  refine ⟨_, pss_cons (ps_if (PW.pt (pw_or (pt_not (pt_val (pe_callB (r := rIsi K) call_isi (by rfl) (T.free "isinstance" (by decide +kernel)) (by decide +kernel) (pa_cons (pv 0) (pa_cons (pe_bltn (v := .ty "dict") (u := .type "dict") (by rfl) (T.free "dict" (by decide +kernel)) (by decide +kernel) rfl) pa_nil))))) (pw_or1 (pt_not (pt_chain op_le op_le pe_int (pe_callB call_lenD (by rfl) (T.free "len" (by decide +kernel)) (by decide +kernel) (pa_cons (pv 0) pa_nil)) (pe_gint (T.int ("MOST_FUNCTIONS", 12) (by decide +kernel)))))))) (pss_one ps_never) pss_nil)
    (pss_cons (ps_if (PW.pt (pw_or (pt_not (pt_val (pe_callB (r := rIsiT K) call_isiT (by rfl) (T.free "isinstance" (by decide +kernel)) (by decide +kernel) (pa_cons (pv 1) (pa_cons (pe_tup (pa_cons (pe_bltn (v := .ty "list") (u := .type "list") (by rfl) (T.free "list" (by decide +kernel)) (by decide +kernel) rfl) (pa_cons (pe_bltn (v := .ty "tuple") (u := .type "tuple") (by rfl) (T.free "tuple" (by decide +kernel)) (by decide +kernel) rfl) pa_nil))) pa_nil))))) (pw_or (pt_cmpR (op_gt) (pe_callB (r := fun xs H Q => ∃ x n, xs = [x] ∧ LenV K x H n ∧ Q (.int n) H) call_len (by rfl) (T.free "len" (by decide +kernel)) (by decide +kernel) (pa_cons (pv 1) pa_nil)) (pe_gint (T.int ("MOST_BOXES", 8) (by decide +kernel))) (nomark _)) (pw_or1 (PW.pt (pw_and (pt_val (pe_callB (r := rIsi K) call_isi (by rfl) (T.free "isinstance" (by decide +kernel)) (by decide +kernel) (pa_cons (pv 1) (pa_cons (pe_bltn (v := .ty "tuple") (u := .type "tuple") (by rfl) (T.free "tuple" (by decide +kernel)) (by decide +kernel) rfl) pa_nil)))) (pw_and1 (pt_cmpR (op_gt) (pe_callB (r := fun xs H Q => ∃ x n, xs = [x] ∧ LenV K x H n ∧ Q (.int n) H) call_len (by rfl) (T.free "len" (by decide +kernel)) (by decide +kernel) (pa_cons (pv 1) pa_nil)) pe_int (nomark _))))))))) (pss_one ps_never) pss_nil)
    (pss_cons (ps_for PassesOwn.never rfl (pi_range1 (by rfl) (T.free "range" (by decide +kernel)) (pa_cons (pe_callB (r := fun xs H Q => ∃ x n, xs = [x] ∧ LenV K x H n ∧ Q (.int n) H) call_len (by rfl) (T.free "len" (by decide +kernel)) (by decide +kernel) (pa_cons (pv 1) pa_nil)) pa_nil)) (pg_name (i := 2) sc_check_tables.nd rfl (by first | exact Or.inl rfl | exact Or.inr rfl))
    (pss_one (ps_expr (pcall G_check_box hr (T.glo "check_box" (by decide +kernel)) (pa_cons (pv 1) (pa_cons (pv 2) pa_nil))))))
    (pss_cons (ps_lock (ps_for PassesOwn.never rfl (pi_items (pv 0)) (pg_tup (n := 2) rfl (pgs_cons (pg_name (i := 3) sc_check_tables.nd rfl (by first | exact Or.inl rfl | exact Or.inr rfl)) (pgs_cons (pg_name (i := 4) sc_check_tables.nd rfl (by first | exact Or.inl rfl | exact Or.inr rfl)) pgs_nil)))
    (pss_one (ps_expr (pcall G_check_definition hr (T.glo "check_definition" (by decide +kernel)) (pa_cons (pv 3) (pa_cons (pv 4) pa_nil)))))))
    (pss_one (ps_if (pt_cmp (pc_dnotin (hu_of hr) (pe_gstr (T.str ("MAIN", "main") (by decide +kernel))) (pv 0))) (pss_one ps_never) pss_nil))))), ?_⟩
  have zl := line_big
  walk_at "st"
  obtain ⟨fv, hfv, hA⟩ := hf
  obtain ⟨bv, hbv, hB⟩ := hr1
  have lf := dta_len hA
  have lb := dta_len hB
  rw [List.length_map] at lf lb
  have lk : (kvz (fs.map Fn91.name) fv).length = fs.length := by rw [kvz_len (by rw [List.length_map]; omega), List.length_map]
  refine isiV (t := "dict") (b := true) (.base (.dK hfv)) (by decide +kernel) ⟨_, rfl, iteFb rfl ⟨_, hfv, iteTb (by rw [lk]; simp; omega) (iteFb (by rw [lk]; simp; omega) ?_)⟩⟩
  walk_at "st"
  refine ⟨by decide, fun p np => isiLT (same_new np _ _ _ hbv) upd_same ⟨_, rfl, iteFb rfl ?_⟩⟩
  have s1 := same_new np (.tup [.ty "list", .ty "tuple"])
  have hb1 := s1 _ _ hbv
  refine ⟨_, .inl ⟨_, .of hb1, rfl⟩, iteFb (by rw [lb]; have := hb.1; simp; omega) (isiV (t := "list") (b := false) (.base (.lst hb1)) (by decide +kernel) ⟨_, rfl, iteFb rfl ?_⟩)⟩
  walk_at "st"
  refine ⟨_, .inl ⟨_, .of hb1, rfl⟩, by omega, by have := hb.1; omega, ?_⟩
  refine forGo walk_range (fun i σ H' => ∃ x2, σ = [some (V.ref a), some (V.ref l), x2, none, none] ∧ Same H H') ⟨_, rfl, s1⟩ (fun _ _ _ _ _ => trivial) ?_ ?_
  · rintro i x σ H1 H2 hi ⟨x2, rfl, s2⟩ hy
    obtain ⟨eH, ex⟩ := hy
    subst eH
    subst ex
    walk_at "wp"
    refine ⟨l, bs, i, by simp, ⟨bv, s2 _ _ hbv, hB.keep (tups_of s2)⟩, hb, by omega, fun H3 s3 => s2.trans s3⟩
  rintro σ H1 ⟨x2, rfl, s2⟩
  walk_at "wp"
  refine sq ?_
  walk_at "wp"
  refine ⟨a, _, s2 _ _ hfv, ?_⟩
  refine ⟨trivial, fun od => ⟨od, _, upd_same, forGo walk_items (fun i σ H' => ∃ x3 x4, σ = [some (V.ref a), some (V.ref l), x2, x3, x4] ∧ Same (upd H1 a (.frz od (.dK (kvz (fs.map Fn91.name) fv)))) H')
    ⟨_, _, rfl, .refl _⟩ (fun _ _ _ _ ⟨_, _, _, s3⟩ => s3 _ _ upd_same) ?_ ?_⟩⟩
  · rintro i y σ H2 H3 hi ⟨x3, x4, rfl, s3⟩ hy
    obtain ⟨T', k, z, rfl, h1, h2, s4, hT'⟩ := pair_ask (K := K) hy
    obtain ⟨kv, ekv, hk⟩ := Option.map_eq_some_iff.mp h1
    obtain ⟨n, en, hk2, hv⟩ := kvz_of ekv
    rw [ekv] at h2
    obtain rfl := Option.some.inj h2
    obtain ⟨f, ef, rfl⟩ : ∃ f, fs[i]? = some f ∧ f.name = n := by
      rw [List.getElem?_map] at en
      exact Option.map_eq_some_iff.mp en
    obtain ⟨d, ed, gd⟩ := dta_of hA hv
    rw [List.getElem?_map, ef] at ed
    obtain rfl := Option.some.inj ed
    rw [hk2] at hk
    subst hk
    have tt := (((tups_of s2).trans (tups_lock (s2 _ _ hfv) (.frz od (.dK (kvz (fs.map Fn91.name) fv))))).trans (tups_of s3)).trans (tups_of s4)
    walk_at "wp"
    exact ⟨_, hT', rfl, _, _, rfl, _, _, rfl, rfl, f, _, rfl, gd.keep tt, f3 f (List.mem_of_getElem? ef), fun H4 s5 => (s3.trans s4).trans s5⟩
  · rintro σ H2 ⟨x3, x4, rfl, s3⟩
    have s4 := same_unlock (s2 _ _ hfv) s3
    refine ⟨s3 _ _ upd_same, _, rfl, a, rfl, ?_⟩
    obtain ⟨i, ei⟩ := List.mem_iff_getElem?.mp f5
    have li := (List.getElem?_eq_some_iff.mp ei).1
    rw [List.length_map] at li
    obtain ⟨v, ev⟩ : ∃ v, fv[i]? = some v := ⟨fv[i], List.getElem?_eq_getElem (by omega)⟩
    exact ⟨_, .k (k := .inr "main") upd_same, iteFb (by rw [kvz_val f4 ei ev]; rfl) (q _ (s2.trans s4))⟩
end
end K91
set_option Elab.async false
set_option linter.all false
set_option maxRecDepth 100000
set_option maxHeartbeats 4000000
/-! Calls with keywords. -/
namespace K91
open PySem PySem.Spec PyProof.Rows L2 StX
/-- a promise by n positional values and the keywords' values -/
def FnK (P : Program) (w : World) (K : PySem.W.Frag) (mg : Str → Option Value) (base : Heap) (k : Nat) (f : Addr) (sp : Sp) (n : Nat) (ks : List Str) : Prop :=
  ∃ fd ps, FnOk P w K mg base CX0 k f fd ps sp ∧ KBn K fd ps n ks (fun us ws => us ++ ws) (fun vs zs => vs ++ zs)
section
variable {P : Program} {w : World} {K : PySem.W.Frag} {mg : Str → Option Value} {base : Heap}
theorem kbindsA {x qual : Str} {params : Arguments} {body : List Stmt} {scope : Scope} {kws : List (Str × V)} {f : Addr} {fd : FuncData} {ps ks : List Str} {n : Nat} (F : FunD K x qual params body scope [] kws f fd)
    (h : ∀ (kV doc pm : Value) (an : Option Addr) (cdv ct : Value) (us ws : List Value), us.length = n → ws.length = ks.length → bindArgs (PySem.W.fnOf x qual params body scope .none kV doc pm an cdv ct) ⟨us, ks.zip ws⟩ = pure (ps.zip (us ++ ws))) :
    KBn K fd ps n ks (fun us ws => us ++ ws) (fun vs zs => vs ++ zs) := by
  obtain ⟨oc, od, dV, kV, doc, pm, an, cdv, ct, osl, rfl, lk, hcd, hD, hK⟩ := F.ex
  rcases hD with ⟨_, rfl⟩ | ⟨e, _⟩
  · exact ⟨fun s us ws X l1 l2 => .of_eq (h kV doc pm an cdv ct us ws l1 l2), fun r1 r2 => r1.append r2⟩
  · exact absurd rfl e
section
variable {x qual : Str} {params : Arguments} {body : List Stmt} {scope : Scope} {f : Addr} {fd : FuncData} {N ps ks : List Str} {k n : Nat} {sp : Sp}
theorem mkK {kws : List (Str × V)} (F : FunD K x qual params body scope [] kws f fd) (S : FnScope N ps scope)
    (bd : ∀ (kV doc pm : Value) (an : Option Addr) (cdv ct : Value) (us ws : List Value), us.length = n → ws.length = ks.length → bindArgs (PySem.W.fnOf x qual params body scope .none kV doc pm an cdv ct) ⟨us, ks.zip ws⟩ = pure (ps.zip (us ++ ws)))
    (len : ∀ vs H Q E, sp vs H Q E → vs.length = ps.length)
    (hbody : ∀ (cdv : Value) (A : Around) (outer : List Env) (s : Shared) (H : Hp) (vs : List V) (Q : VK) (E : XK), Room k (A.deeper (envOfC qual scope s.heap.objs.size f cdv)) → sp vs H Q E →
      ∃ t, PSs (cxOf CX0 P w K mg base N qual scope f cdv A outer s H E).nox body t ∧ t { nx := fun _ H' => Q .non H', rt := Q } (start N vs) H) : FnK P w K mg base (k + 1) f sp n ks :=
  ⟨fd, ps, F.ok S len fun cdv A outer s H vs Q E hr h => by
    obtain ⟨t, h1, h2⟩ := hbody cdv A outer s H vs Q E hr h
    exact ⟨t, h1.nox, h2⟩, kbindsA F bd⟩
/-- both ways -/
theorem mkB (F : FunD K x qual params body scope [] [] f fd) (S : FnScope N ps scope) 
    (bd : ∀ (kV doc pm : Value) (an : Option Addr) (cdv ct : Value) (us : List Value), us.length = ps.length → bindArgs (PySem.W.fnOf x qual params body scope .none kV doc pm an cdv ct) ⟨us, []⟩ = pure (ps.zip us))
    (bdk : ∀ (kV doc pm : Value) (an : Option Addr) (cdv ct : Value) (us ws : List Value), us.length = n → ws.length = ks.length → bindArgs (PySem.W.fnOf x qual params body scope .none kV doc pm an cdv ct) ⟨us, ks.zip ws⟩ = pure (ps.zip (us ++ ws)))
    (len : ∀ vs H Q E, sp vs H Q E → vs.length = ps.length)
    (hbody : ∀ (cdv : Value) (A : Around) (outer : List Env) (s : Shared) (H : Hp) (vs : List V) (Q : VK) (E : XK), Room k (A.deeper (envOfC qual scope s.heap.objs.size f cdv)) → sp vs H Q E →
      ∃ t, PSs (cxOf CX0 P w K mg base N qual scope f cdv A outer s H E).nox body t ∧ t { nx := fun _ H' => Q .non H', rt := Q } (start N vs) H) :
    FnR P w K mg base CX0 (k + 1) f sp ∧ FnK P w K mg base (k + 1) f sp n ks :=
  ⟨mkR F S bd len hbody, mkK F S bdk len hbody⟩
/-- a keyword-only parameter with a default -/
theorem mkD {nm : Str} {v : V} (F : FunD K x qual params body scope [] [(nm, v)] f fd) (S : FnScope N ps scope) (hn : n + 1 = ps.length)
    (bd : ∀ (D : Addr) (doc pm : Value) (an : Option Addr) (cdv ct : Value) (us ks : List Value), us.length = n → ks.length = 1 →
      KwChain D (([nm]).zip ks) (bindArgs (PySem.W.fnOf x qual params body scope .none (.ref D) doc pm an cdv ct) ⟨us, []⟩) (ps.zip (us ++ ks)))
    (bdk : ∀ (kV doc pm : Value) (an : Option Addr) (cdv ct : Value) (us ws : List Value), us.length = n → ws.length = 1 → bindArgs (PySem.W.fnOf x qual params body scope .none kV doc pm an cdv ct) ⟨us, [nm].zip ws⟩ = pure (ps.zip (us ++ ws)))
    (len : ∀ vs H Q E, sp vs H Q E → vs.length = ps.length)
    (hbody : ∀ (cdv : Value) (A : Around) (outer : List Env) (s : Shared) (H : Hp) (vs : List V) (Q : VK) (E : XK), Room k (A.deeper (envOfC qual scope s.heap.objs.size f cdv)) → sp vs H Q E →
      ∃ t, PSs (cxOf CX0 P w K mg base N qual scope f cdv A outer s H E).nox body t ∧ t { nx := fun _ H' => Q .non H', rt := Q } (start N vs) H) :
    FnR P w K mg base CX0 (k + 1) f (fun vs H Q E => sp (vs ++ [v]) H Q E) ∧ FnK P w K mg base (k + 1) f sp n [nm] := by
  have G : FnOk P w K mg base CX0 (k + 1) f fd ps sp := F.ok S len fun cdv A outer s H vs Q E hr h => by
    obtain ⟨t, h1, h2⟩ := hbody cdv A outer s H vs Q E hr h
    exact ⟨t, h1.nox, h2⟩
  obtain ⟨ds, r, hb⟩ := F.binds0 n (by simp) (by simpa using hn) bd
  exact ⟨G.raw hb r, fd, ps, G, kbindsA F bdk⟩
end
end
section
variable {X : Cx} {k k' n : Nat} {f C : Addr} {ks : List Str} {sp : Sp} {x m : Str} {p pos apos : Pos} {e o : Expr} {es : List Expr} {kws : List Keyword} {t tk : TA} {ta : TE}
def tCallKw (n m : Nat) (sp : Sp) (t tk : TA) : TE := fun σ H Q => t σ H fun vs H1 => tk σ H1 fun zs H2 => vs.length = n ∧ zs.length = m ∧ sp (vs ++ zs) H2 Q E0
def tMakeKw (C : Addr) (n m : Nat) (sp : Sp) (t tk : TA) : TE := fun σ H Q => t σ H fun vs H1 => tk σ H1 fun zs H2 => vs.length = n ∧ zs.length = m ∧ ∀ x dx, H2 x = none → H2 dx = none → dx ≠ x →
  sp (.ref x :: vs ++ zs) (upd (upd H2 dx (.own x)) x (.ins C dx [])) (fun v H3 => v = .non ∧ Q (.ref x) H3) E0
def tMethKw (C : Addr) (m : Str) (l : Nat) (sp : Sp) (ta : TE) (tk : TA) : TE := fun σ H Q => ta σ H fun x H1 => ∃ a dx fs, x = .ref a ∧ H1 a = some (.ins C dx fs) ∧ fs.lookup m = none ∧ tk σ H1 fun zs H2 => zs.length = l ∧ sp (x :: zs) H2 Q E0
theorem pcallK0 (F : FnK X.prog X.w X.K X.mg X.base k f sp 0 ks) (hr : Room k' X.A) (g : X.mg x = some (.ref f) ∧ PySem.W.keepIn X.K (.ref f) = true) (hkw : PK X kws tk) (hk : k ≤ k' := by omega) (hg : Gl X x := by rfl)
    (hall : (backToKw pos (keywordEach kws X.env)).all (·.1.isSome) = true := by rfl) (hks : (backToKw pos (keywordEach kws X.env)).filterMap (·.1) = ks := by rfl) (hdb : (x == ("__debug__" : Str)) = false := by decide)
    (hpl : ((backTo pos (starEach [] X.env)).any (·.1) || (backToKw pos (keywordEach kws X.env)).any (·.1.isNone)) = false := by rfl) :
    PE X (.Call (.Name x p) [] kws pos) (tCallKw 0 ks.length sp tNil tk) := by
  obtain ⟨fd, ps, G, hb⟩ := F
  refine ⟨fun pins s σ H Q I h => ?_⟩
  refine wpAny_Call_Name_kw (ld_glob I hg g.1 ?_ hdb)
  refine PySem.W.callWith_KW0 (h₀ := X.base) I.ok.mod.kin g.2 hall ?_ hpl
  refine thn (hkw.run pos pins s σ H _ I h) fun ws s2 ⟨zs, H2, I2, rz, l1, l2, q2⟩ => ⟨I2.kIn, ?_⟩
  rw [hks]
  exact run_fnN (us := []) (vs := []) G (hr.mono hk) hb pass0 I2 .nil rz rfl l2 q2
theorem pcallK (F : FnK X.prog X.w X.K X.mg X.base k f sp n ks) (hr : Room k' X.A) (g : X.mg x = some (.ref f) ∧ PySem.W.keepIn X.K (.ref f) = true) (ha : PA X (e :: es) t) (hkw : PK X kws tk) (hk : k ≤ k' := by omega) (hg : Gl X x := by rfl)
    (hall : (backToKw pos (keywordEach kws X.env)).all (·.1.isSome) = true := by rfl) (hks : (backToKw pos (keywordEach kws X.env)).filterMap (·.1) = ks := by rfl) (hdb : (x == ("__debug__" : Str)) = false := by decide)
    (he : starEach (e :: es) X.env = (false, eval e X.env) :: starEach es X.env := by rfl) (hpl : ((backTo pos (starEach (e :: es) X.env)).any (·.1) || (backToKw pos (keywordEach kws X.env)).any (·.1.isNone)) = false := by rfl) :
    PE X (.Call (.Name x p) (e :: es) kws pos) (tCallKw n ks.length sp t tk) := by
  obtain ⟨fd, ps, G, hb⟩ := F
  refine ⟨fun pins s σ H Q I h => ?_⟩
  exact (pe_callN G (hr.mono hk) hg g.1 g.2 hb pass0 ha hkw hall hks hdb he hpl).run pins s σ H Q I h
theorem pmakeK (F : FnK X.prog X.w X.K X.mg X.base k f sp (n + 1) ks) (hr : Room k' X.A) (M : Mk X.K C f) (hm : X.mg x = some (.ref C)) (ha : PA X (e :: es) t) (hkw : PK X kws tk) (hk : k + 1 ≤ k' := by omega) (hg : Gl X x := by rfl)
    (hall : (backToKw pos (keywordEach kws X.env)).all (·.1.isSome) = true := by rfl) (hks : (backToKw pos (keywordEach kws X.env)).filterMap (·.1) = ks := by rfl) (hdb : (x == ("__debug__" : Str)) = false := by decide)
    (he : starEach (e :: es) X.env = (false, eval e X.env) :: starEach es X.env := by rfl) (hpl : ((backTo pos (starEach (e :: es) X.env)).any (·.1) || (backToKw pos (keywordEach kws X.env)).any (·.1.isNone)) = false := by rfl) :
    PE X (.Call (.Name x p) (e :: es) kws pos) (tMakeKw C n ks.length sp t tk) := by
  obtain ⟨fd, ps, G, hb⟩ := F
  refine ⟨fun pins s σ H Q I h => ?_⟩
  exact (pe_makeK M G (hr.mono hk) hg hm hb pass0 ha hkw hall hks hdb he hpl).run pins s σ H Q I h
theorem pmethK0 {pl : Sem Bool} (c : Cls X.K C) (hm : Meth X.K C m f) (F : FnK X.prog X.w X.K X.mg X.base k f sp 1 ks) (hr : Room k' X.A) (he : PE X o ta) (hkw : PK X kws tk) (hk : k ≤ k' := by omega)
    (hall : (backToKw pos (keywordEach kws X.env)).all (·.1.isSome) = true := by rfl) (hks : (backToKw pos (keywordEach kws X.env)).filterMap (·.1) = ks := by rfl)
    (hpl : ((backTo pos (starEach [] X.env)).any (·.1) || (backToKw pos (keywordEach kws X.env)).any (·.1.isNone)) = false := by rfl)
    (ht : eval (.Call (.Attribute o m apos) [] kws pos) X.env = (do
      let ov ← eval o X.env
      standAt apos.atName
      let (f, first) ← holding [ov] (getMethod ov m pl)
      callWith pos f first (backTo pos (starEach [] X.env)) (backToKw pos (keywordEach kws X.env))) := by rfl) :
    PE X (.Call (.Attribute o m apos) [] kws pos) (tMethKw C m ks.length sp ta tk) := by
  obtain ⟨fd, ps, G, hb⟩ := F
  refine ⟨fun pins s σ H Q I h => ?_⟩
  refine PySem.W.methodCall_KW (pl := pl) (thn (he.run pins s σ H _ I h) fun u s1 ⟨x, H1, I1, rx, a, dx, fs, ex, ea, l, q⟩ => ?_) ht
  subst ex
  obtain rfl : u = Value.ref a := rx
  refine getmeth_ok I1 ea c hm l ?_
  refine PySem.W.callWith_KW0 (first := [.ref a]) (h₀ := X.base) I.ok.mod.kin hm.kp hall ?_ hpl
  refine thn (hkw.run pos pins s1 σ H1 _ I1 q) fun ws s2 ⟨zs, H2, I2, rz, l2, q2⟩ => ⟨I2.kIn, ?_⟩
  rw [hks]
  exact run_fnN (us := [.ref a]) (vs := [.ref a]) G (hr.mono hk) hb pass0 I2 (.cons rfl .nil) rz rfl l2 q2

theorem pmk (F : FnR X.prog X.w X.K X.mg X.base CX0 k f sp) (hr : Room k' X.A) (M : Mk X.K C f) (hm : X.mg x = some (.ref C)) (ha : PA X (e :: es) t) (hk : k + 1 ≤ k' := by omega) (hg : Gl X x := by rfl) (hdb : (x == ("__debug__" : Str)) = false := by decide)
    (he : starEach (e :: es) X.env = (false, eval e X.env) :: starEach es X.env := by rfl) (hpl : (backTo pos (starEach es X.env)).any (·.1) = false := by rfl) : PE X (.Call (.Name x p) (e :: es) [] pos) (tMakeR C sp E0 t) :=
  pe_makeR M F (hr.mono hk) hg hm pass0 ha hdb he hpl
end
end K91
set_option Elab.async false
set_option linter.all false
set_option maxRecDepth 100000
set_option maxHeartbeats 4000000
/-! Dict comprehensions, comprehensions of two loops, new instances. -/
namespace K91
open PySem PySem.Spec PyProof.Rows L2
/-- all but one address -/
def SameX (p : Addr) (H H' : Hp) : Prop := ∀ b u, b ≠ p → H b = some u → H' b = some u
theorem SameX.of {p : Addr} {H H' : Hp} (s : Same H H') : SameX p H H' := fun b u _ e => s b u e
theorem SameX.trans {p : Addr} {H H1 H2 : Hp} (a : SameX p H H1) (b : SameX p H1 H2) : SameX p H H2 := fun c u n e => b c u n (a c u n e)
theorem SameX.put {p : Addr} {H : Hp} (o : HO) : SameX p H (upd H p o) := fun b u n e => by rw [upd_ne n]; exact e
theorem SameX.new {x dx : Addr} {H H' : Hp} {C : Addr} (h1 : H x = none) (h2 : H dx = none) (hd : dx ≠ x) (s : SameX x (upd (upd H dx (.own x)) x (.ins C dx [])) H') : Same H H' := fun b u e => by
  have n1 : b ≠ x := by rintro rfl; rw [h1] at e; cases e
  have n2 : b ≠ dx := by rintro rfl; rw [h2] at e; cases e
  exact s b u n1 (by rw [upd_ne n1, upd_ne n2]; exact e)
theorem same_make {x dx C : Addr} {H : Hp} (h1 : H x = none) (h2 : H dx = none) : Same H (upd (upd H dx (.own x)) x (.ins C dx [])) := fun b u e => by
  have n1 : b ≠ x := by rintro rfl; rw [h1] at e; cases e
  have n2 : b ≠ dx := by rintro rfl; rw [h2] at e; cases e
  rw [upd_ne n1, upd_ne n2]
  exact e
/-! ### dict comprehensions -/
def DcGo (J : It) (g : TG) (tt : TT) (tk tv : TE) (vs : List Nat) (σ : L2.St) (H1 : Hp) (Q : VK) : Prop := ∀ D, H1 D = none → ∃ W : Nat → Nat → Hp → Prop, (∃ m, W 0 m (upd H1 D (.dK []))) ∧ ∀ i m H, W i m H →
  (J.stop i H ∧ Q (.ref D) H) ∨ (J.go i H ∧ ∃ Nx : Hp → Prop, (∀ H', Nx H' → ∃ m', m' < m ∧ W (i + 1) m' H') ∧ ∀ x H', J.yld i H x H' → g x (wipe σ vs) H' fun σ2 H2 => wipe σ2 vs = wipe σ vs ∧ tt σ2 H2 fun b H3 =>
    if b = true then tk σ2 H3 fun y H4 => tv σ2 H4 fun z H5 => ∃ kvs k, y = kV k ∧ H5 D = some (.dK kvs) ∧ kvs.length < sizeLine ∧ Nx (upd H5 D (.dK (putK kvs k z))) else Nx H3)
theorem tDc_eq (wi : TI) (g : TG) (tt : TT) (tk tv : TE) (vs : List Nat) (σ : L2.St) (H : Hp) (Q : VK) : tDc wi g tt tk tv vs σ H Q = wi σ H fun J H1 => DcGo J g tt tk tv vs σ H1 Q := rfl
/-- i keys in -/
def DcZ (H1 : Hp) (D : Addr) (ns : List Str) (us : List V) (i : Nat) (H : Hp) : Prop := Same H1 H ∧ H D = some (.dK (kvz (ns.take i) (us.take i)))
theorem kvz_app {a b : List Str} {u v : List V} (h : u.length = a.length) : kvz (a ++ b) (u ++ v) = kvz a u ++ kvz b v := by
  unfold kvz
  rw [List.map_append, List.zip_append (by rw [List.length_map]; omega)]
theorem put_new {ns : List Str} {us : List V} {m : Str} {z : V} (h : m ∉ ns) : putK (kvz ns us) (.inr m) z = kvz ns us ++ [(.inr m, z)] := by
  unfold putK
  rw [if_neg]
  intro c
  obtain ⟨q, hq, e⟩ := List.any_eq_true.mp c
  obtain ⟨i, ei⟩ := List.mem_iff_getElem?.mp hq
  obtain ⟨n, en, e1, _⟩ := kvz_of ei
  have e := of_decide_eq_true e
  rw [e1] at e
  exact h (Sum.inr.inj e ▸ List.mem_of_getElem? en)
theorem dcz_step {H1 H H5 : Hp} {D : Addr} {ns : List Str} {us : List V} {i : Nat} {m : Str} {z : V} (nD : H1 D = none) (nd : ns.Nodup) (hl : us.length = ns.length) (hz : ns.length < sizeLine) (h : DcZ H1 D ns us i H) (s : Same H H5) (e1 : ns[i]? = some m) (e2 : us[i]? = some z) :
    ∃ kvs k, V.str m = kV k ∧ H5 D = some (.dK kvs) ∧ kvs.length < sizeLine ∧ DcZ H1 D ns us (i + 1) (upd H5 D (.dK (putK kvs k z))) := by
  have hi : i < ns.length := (List.getElem?_eq_some_iff.mp e1).1
  refine ⟨_, .inr m, rfl, s _ _ h.2, ?_, same_at nD (h.1.trans s) _, ?_⟩
  · rw [kvz_len (by rw [List.length_take, List.length_take]; omega), List.length_take]
    omega
  · have hm : m ∉ ns.take i := fun c => by
      have := nodup_take nd e1
      rw [Bool.eq_false_iff] at this
      exact this (List.contains_iff_mem.mpr c)
    rw [upd_same, put_new hm, List.take_add_one, List.take_add_one, e1, e2, Option.toList_some, Option.toList_some, kvz_app (by rw [List.length_take, List.length_take]; omega)]
    rfl
theorem dcGo {J : It} {n : Nat} {G : Hp → Prop} {Y : Nat → Hp → V → Hp → Prop} (wk : Walk J n G Y) {g : TG} {tt : TT} {tk tv : TE} {vs : List Nat} {σ : L2.St} {H1 : Hp} {Q : VK} (ns : List Str) (us : List V) (hn : ns.length = n) (hl : us.length = n) (hG : ∀ H, Same H1 H → G H)
    (hs : ∀ D i x H H', H1 D = none → i < n → DcZ H1 D ns us i H → Y i H x H' → g x (wipe σ vs) H' fun σ2 H2 => wipe σ2 vs = wipe σ vs ∧ tt σ2 H2 fun b H3 =>
      if b = true then tk σ2 H3 fun y H4 => tv σ2 H4 fun z H5 => ∃ kvs k, y = kV k ∧ H5 D = some (.dK kvs) ∧ kvs.length < sizeLine ∧ DcZ H1 D ns us (i + 1) (upd H5 D (.dK (putK kvs k z))) else DcZ H1 D ns us (i + 1) H3)
    (hd : ∀ D H, H1 D = none → Same H1 H → H D = some (.dK (kvz ns us)) → Q (.ref D) H) : DcGo J g tt tk tv vs σ H1 Q := fun D nD => by
  refine ⟨fun i m H => m = n - i ∧ i ≤ n ∧ DcZ H1 D ns us i H, ⟨n, rfl, Nat.zero_le _, same_new nD _, upd_same⟩, ?_⟩
  rintro i m H ⟨rfl, hi, z⟩
  by_cases h : i < n
  · exact .inr ⟨wk.goes i H h (hG H z.1), DcZ H1 D ns us (i + 1), fun H' z' => ⟨n - (i + 1), by omega, rfl, h, z'⟩, fun x H' y => hs D i x H H' nD h z (wk.yields i H x H' h (hG H z.1) y)⟩
  · have e : i = n := by omega
    subst e
    refine .inl ⟨wk.stops H (hG H z.1), hd D H nD z.1 ?_⟩
    rw [z.2, List.take_of_length_le (by omega), List.take_of_length_le (by omega)]
/-! ### two loops -/
def Lc2In (J1 : It) (g1 : TG) (tt1 : TT) (te : TE) (vs1 : List Nat) (σ2 : L2.St) (H4 : Hp) (D : Addr) (Nx : Hp → Prop) : Prop := ∃ W1 : Nat → Nat → Hp → Prop, (∃ m, W1 0 m H4) ∧ ∀ j k H, W1 j k H →
      (J1.stop j H ∧ Nx H) ∨ (J1.go j H ∧ ∃ Nx1 : Hp → Prop, (∀ H', Nx1 H' → ∃ k', k' < k ∧ W1 (j + 1) k' H') ∧ ∀ x H', J1.yld j H x H' → g1 x (wipe σ2 vs1) H' fun σ3 H5 => wipe σ3 vs1 = wipe σ2 vs1 ∧ tt1 σ3 H5 fun b H6 =>
        if b = true then te σ3 H6 fun y H7 => ∃ acc, H7 D = some (.lst acc) ∧ acc.length < sizeLine ∧ Nx1 (upd H7 D (.lst (acc ++ [y]))) else Nx1 H6)
def Lc2Go (J : It) (g : TG) (tt : TT) (wi1 : TI) (g1 : TG) (tt1 : TT) (te : TE) (vs vs1 : List Nat) (σ : L2.St) (H1 : Hp) (Q : VK) : Prop := ∀ D, H1 D = none → ∃ W : Nat → Nat → Hp → Prop, (∃ m, W 0 m (upd H1 D (.lst []))) ∧ ∀ i m H, W i m H →
  (J.stop i H ∧ Q (.ref D) H) ∨ (J.go i H ∧ ∃ Nx : Hp → Prop, (∀ H', Nx H' → ∃ m', m' < m ∧ W (i + 1) m' H') ∧ ∀ x H', J.yld i H x H' → g x (wipe σ vs) H' fun σ2 H2 => wipe σ2 vs = wipe σ vs ∧ tt σ2 H2 fun b H3 =>
    if b = true then wi1 σ2 H3 fun J1 H4 => Lc2In J1 g1 tt1 te vs1 σ2 H4 D Nx else Nx H3)
theorem tLc2_eq (wi : TI) (g : TG) (tt : TT) (wi1 : TI) (g1 : TG) (tt1 : TT) (te : TE) (vs vs1 : List Nat) (σ : L2.St) (H : Hp) (Q : VK) : tLc2 wi g tt wi1 g1 tt1 te vs vs1 σ H Q = wi σ H fun J H1 => Lc2Go J g tt wi1 g1 tt1 te vs vs1 σ H1 Q := rfl
def Lc2P (H1 : Hp) (D : Addr) (R : List V → Hp → Prop) (H : Hp) : Prop := ∃ acc, Same H1 H ∧ H D = some (.lst acc) ∧ R acc H
theorem lc2Go {J : It} {n : Nat} {G : Hp → Prop} {Y : Nat → Hp → V → Hp → Prop} (wk : Walk J n G Y) {g : TG} {tt : TT} {wi1 : TI} {g1 : TG} {tt1 : TT} {te : TE} {vs vs1 : List Nat} {σ : L2.St} {H1 : Hp} {Q : VK} (R : Nat → List V → Hp → Prop)
    (h0 : ∀ D, H1 D = none → R 0 [] (upd H1 D (.lst []))) (hG : ∀ H, Same H1 H → G H)
    (hs : ∀ D i x acc H H', H1 D = none → i < n → Same H1 H → H D = some (.lst acc) → R i acc H → Y i H x H' → g x (wipe σ vs) H' fun σ2 H2 => wipe σ2 vs = wipe σ vs ∧ tt σ2 H2 fun b H3 =>
      if b = true then wi1 σ2 H3 fun J1 H4 => Lc2In J1 g1 tt1 te vs1 σ2 H4 D (Lc2P H1 D (R (i + 1))) else Lc2P H1 D (R (i + 1)) H3)
    (hd : ∀ D acc H, H1 D = none → Same H1 H → H D = some (.lst acc) → R n acc H → Q (.ref D) H) : Lc2Go J g tt wi1 g1 tt1 te vs vs1 σ H1 Q := fun D nD => by
  refine ⟨fun i m H => m = n - i ∧ i ≤ n ∧ Lc2P H1 D (R i) H, ⟨n, rfl, Nat.zero_le _, [], same_new nD _, upd_same, h0 D nD⟩, ?_⟩
  rintro i m H ⟨rfl, hi, acc, z, e, r⟩
  by_cases h : i < n
  · exact .inr ⟨wk.goes i H h (hG H z), Lc2P H1 D (R (i + 1)), fun H' z' => ⟨n - (i + 1), by omega, rfl, h, z'⟩, fun x H' y => hs D i x acc H H' nD h z e r (wk.yields i H x H' h (hG H z) y)⟩
  · have e2 : i = n := by omega
    subst e2
    exact .inl ⟨wk.stops H (hG H z), hd D acc H nD z e r⟩
theorem lc2In {J1 : It} {n : Nat} {G : Hp → Prop} {Y : Nat → Hp → V → Hp → Prop} (wk : Walk J1 n G Y) {g1 : TG} {tt1 : TT} {te : TE} {vs1 : List Nat} {σ2 : L2.St} {H1 H4 : Hp} {D : Addr} {Nx : Hp → Prop} (R : Nat → List V → Hp → Prop)
    (h0 : Lc2P H1 D (R 0) H4) (hG : ∀ j acc H, Same H1 H → R j acc H → G H)
    (hs : ∀ j x acc H H', j < n → Same H1 H → H D = some (.lst acc) → R j acc H → Y j H x H' → g1 x (wipe σ2 vs1) H' fun σ3 H5 => wipe σ3 vs1 = wipe σ2 vs1 ∧ tt1 σ3 H5 fun b H6 =>
      if b = true then te σ3 H6 fun y H7 => ∃ acc, H7 D = some (.lst acc) ∧ acc.length < sizeLine ∧ Lc2P H1 D (R (j + 1)) (upd H7 D (.lst (acc ++ [y]))) else Lc2P H1 D (R (j + 1)) H6)
    (hd : ∀ acc H, Same H1 H → H D = some (.lst acc) → R n acc H → Nx H) : Lc2In J1 g1 tt1 te vs1 σ2 H4 D Nx := by
  refine ⟨fun j m H => m = n - j ∧ j ≤ n ∧ Lc2P H1 D (R j) H, ⟨n, rfl, Nat.zero_le _, h0⟩, ?_⟩
  rintro j m H ⟨rfl, hj, acc, z, e, r⟩
  by_cases h : j < n
  · exact .inr ⟨wk.goes j H h (hG j acc H z r), Lc2P H1 D (R (j + 1)), fun H' z' => ⟨n - (j + 1), by omega, rfl, h, z'⟩, fun x H' y => hs j x acc H H' h z e r (wk.yields j H x H' h (hG j acc H z r) y)⟩
  · have e2 : j = n := by omega
    subst e2
    exact .inl ⟨wk.stops H (hG j acc H z r), hd acc H z e r⟩
theorem sFld_eq (K : PySem.W.Frag) (ta tv : TE) (f : Str) (D : Ends) (σ : L2.St) (H : Hp) : sFld K ta tv f D σ H = (tv σ H fun y H1 => ta σ H1 fun x H2 => ∃ a C dx fs, x = .ref a ∧ H2 a = some (.ins C dx fs) ∧ Cls K C ∧ NoAttr K C f ∧ fs.length < 1000 ∧ D.nx σ (upd H2 a (.ins C dx (putF f y fs)))) := rfl
end K91
namespace L2
open PySem PySem.Spec PyProof.Rows
section
variable {X : Cx}
theorem sw_trueD {kx vx : Expr} {gs : List Comprehension} {scope : Scope} {pos py : Pos} {y : Str} {l : Nat} {env : Env} (hk : env.scope.kind = .function) (hy : env.scope.names.lookup y = some .local) (hl : (py.line == pos.line) = true)
    (ha : (scope.names.any fun (n, k) => n == y && (k == .local || k == .cell)) = false) : swapsWith (.DictComp kx vx gs scope pos) (some (.Name y py)) l env = pure true := by
  have ky : env.kindOf y = some .local := hy
  have hb : env.blockKind = .function := by unfold Env.blockKind; rw [hk]; rfl
  unfold swapsWith
  simp only [hb, ky, ha, Expr.pos, hl]
  rfl
/-- y = {k: v for ..} -/
theorem ps_setDc {i : Nat} {y : Str} {py : Pos} {kx vx tg iter : Expr} {ifs : List Expr} {scope : Scope} {own : List (Str × Nat)} {pos spos : Pos} {wi : TI} {g : TG} {tt : TT} {tk tv : TE} (hc : X.calm = true) (hN : X.N.Nodup) (hy : X.N[i]? = some y) (hyl : X.env.scope.names.lookup y = some .local)
    (hsw : swapsWith (.DictComp kx vx [⟨tg, iter, ifs, 0⟩] scope pos) (some (.Name y py)) spos.line X.env = pure true) (hi : PI X tg iter wi) (ok : BlkOk X.N X.env.scope scope own)
    (hg : ∀ (s : Shared) (H : Hp) (C : Addr) (cl : List (Str × Addr)) (fp : List Addr), PG (X.blk s H scope (compEnvC scope cl C X.env) fp) tg g) (ht : ∀ (s : Shared) (H : Hp) (C : Addr) (cl : List (Str × Addr)) (fp : List Addr), PTs (X.blk s H scope (compEnvC scope cl C X.env) fp) ifs tt)
    (hk : ∀ (s : Shared) (H : Hp) (C : Addr) (cl : List (Str × Addr)) (fp : List Addr), PE (X.blk s H scope (compEnvC scope cl C X.env) fp) kx tk)
    (he : ∀ (s : Shared) (H : Hp) (C : Addr) (cl : List (Str × Addr)) (fp : List Addr), PE (X.blk s H scope (compEnvC scope cl C X.env) fp) vx tv) (hs : ∀ x, foldedSetIterable iter X.env x = pure x := by intro _; rfl) :
    PS X (.Assign [.Name y py] (.DictComp kx vx [⟨tg, iter, ifs, 0⟩] scope pos) spos) (tAsg (tDc wi g tt tk tv (own.map (·.2))) (gName i)) := by
  refine ⟨fun pins s σ H D I h => ?_⟩
  rw [exec_Assign_Name_used _ _ _ _ hsw]
  refine wpAny_bind (wpAny_standAt (wpAny_bind ?_))
  show wpAny _ X.A (do let _ ← comprehension (.DictComp kx vx [⟨tg, iter, ifs, 0⟩] scope pos) scope X.env (firstIterPos [⟨tg, iter, ifs, 0⟩] pos) newDict false (eval iter X.env) (some (assign (.Name y py) X.env))) _ _ s
  have h : tDc wi g tt tk tv (own.map (·.2)) σ H (fun x H1 => gName i x σ H1 D.nx) := h
  refine wpAny_bind (thn (dc_core (Qf := fun _ s' => SP X pins D .next s') hc hN I hi ok hg ht hk he hs h fun L C s' m H' I' q hn f => ?_) fun _ s' hq => wpAny_pure (wpAny_pure hq))
  show wpAny _ _ (assign (.Name y py) X.env (.ref L)) _ _ _
  refine wpAny_assign_Name (store_ok2 (v := V.ref L) I' hN hy (.inl hyl) rfl (fun s2 I2 ⟨a, sb, ha⟩ => ?_) (.inr hyl))
  obtain ⟨f0, f1, f2, f3, f4, f5⟩ := f
  have haC : C ≠ a := by
    rcases ha with z | z
    · rw [z]; exact f1
    · exact fun e => f4 y a z e.symm
  refine ⟨m, hn.sameBut sb haC, fun h3 sb3 => ?_⟩
  exact ⟨_, H', I2.turned (t' := s2.toks) (fun b o hb e => (sb3.2 b hb).trans e) f0 f1 f3 f4 f5, q⟩
end
end L2
set_option Elab.async false
set_option linter.all false
set_option maxRecDepth 100000
set_option maxHeartbeats 8000000
namespace K91
open PySem PySem.Spec PyProof.Rows L2
local macro_rules | `(tactic| walk_at "wp") => `(tactic| try simp only [cxK, cxw, cxK', cxw', start1, start2, start3, start4, start5, tRet, tRetN, tAsg, gName, gTup, gCons, gNil, gSub, tDrop, tNext, tIfS, tIf, tVar, tC, tAndV, tOrV, tNotV, tAnd, tOr, tNot, tTest, tB, tCB, tCons, tNil, tOp, tUn, rI0, rI, rU, rEq, rNe, rIn, tChain, tFld, sFld, tSl, tPart, tNoPart, tTup, tLst, tCallR, tMethR, tMethO, tBM, tBM0, tM0, tM1, tDGet, tDIn, tDNotIn, tDNewK, tCmp, t2I, tIsN, tNotN, tYes, tLc_eq, tFor_eq, tLenSetN, iItems, iVals, iKeys, iRng1, tLock, tLockE, tCallKw, tMakeKw, tMethKw, StX.tMakeR, tDc_eq, tLc2_eq, RZ.iZipA, iStr, iTup, iList, iEnum, iEnumT, tDGet1, tDGet2, tDisp, tPairs, wipe, List.map_cons, List.map_nil,
  List.length_cons, List.length_nil, Nat.reduceAdd, Nat.reduceSub, List.replicate_succ, List.replicate_zero, if_true, if_false, Bool.not_true, Bool.not_false, Bool.false_eq_true, reduceIte,
  List.set_cons_zero, List.set_cons_succ, List.getElem?_cons_zero, List.getElem?_cons_succ, Option.some.injEq, exists_eq_left', exists_eq_left, V.int.injEq, V.str.injEq, V.bl.injEq, V.ref.injEq, V.ty.injEq, List.cons.injEq, and_true, true_and, and_assoc, exists_and_left, List.nil_append, List.cons_append, List.append_nil])
local macro_rules | `(tactic| walk_at "st") => `(tactic| (refine sq ?_; walk_at "wp"))
section
variable {P : Program} {w : World} {K : PySem.W.Frag} {mg : Str → Option Value} {base : Heap}
theorem put_le {f : Str} {v : V} : ∀ {fs : List (Str × V)}, (putF f v fs).length ≤ fs.length + 1
  | [] => Nat.le_refl _
  | (g, x) :: r => by
    unfold putF
    by_cases h : g = f
    · rw [if_pos h]; simp
    · rw [if_neg h]
      have := put_le (f := f) (v := v) (fs := r)
      simp only [List.length_cons]
      omega
theorem fput {K : PySem.W.Frag} {H : Hp} {p C dx : Addr} {fs fs' : List (Str × V)} {f : Str} {y : V} {R : Hp → Prop} (h : H p = some (.ins C dx fs)) (c : Cls K C) (n : NoAttr K C f) (e : putF f y fs = fs') (hl : fs.length < 1000) (q : R (upd H p (.ins C dx fs'))) :
    ∃ x x_1 x_2, H p = some (.ins x x_1 x_2) ∧ Cls K x ∧ NoAttr K x f ∧ x_2.length < 1000 ∧ R (upd H p (.ins x x_1 (putF f y x_2))) := ⟨C, dx, fs, h, c, n, hl, by rw [e]; exact q⟩
def spChkInit (K : PySem.W.Frag) : Sp := fun vs H Q _ => ∃ p dx f ds bl, vs = [.ref p, f, ds, bl] ∧ H p = some (.ins (He.ga K "Checker") dx []) ∧ ∀ H', SameX p H H' → H' p = some (.ins (He.ga K "Checker") dx [("function", f), ("sizes", ds), ("box_names", bl)]) → Q .non H'
theorem ok_Checker___init__ (T : Top K mg w)  : FnR P w K mg base CX0 1 (He.ma K (He.ga K "Checker") "__init__") (spChkInit K) := by
  obtain ⟨fd, F⟩ := T.def_ d_Checker___init__ (List.mem_of_getElem? (i := 14) rfl)
  refine mkR F sc_Checker___init__ (fun _ _ _ _ _ _ us hl => match us, hl with | [_, _, _, _], _ => rfl) (fun vs H Q E h => ?_) (fun cdv A outer s H vs Q E hr h => ?_)
  · obtain ⟨p, dx, f, ds, bl, rfl, _⟩ := h; rfl
  obtain ⟨p, dx, f, ds, bl, rfl, hp, q⟩ := h
  refine ⟨_, pss_cons (ps_fld (pv 0) (pv 1) rfl)
    (pss_cons (ps_fld (pv 0) (pv 2) rfl)
    (pss_one (ps_fld (pv 0) (pv 3) rfl))), ?_⟩
  have c := (T.cls "Checker" (by decide +kernel)).1
  walk_at "st"
  refine fput hp c (T.noat ("Checker", "function") (by decide +kernel)) (fs' := [("function", f)]) rfl (by decide) ?_
  walk_at "st"
  refine ⟨_, dx, _, upd_same, c, T.noat ("Checker", "sizes") (by decide +kernel), by simp, ?_⟩
  refine ⟨_, dx, _, upd_same, c, T.noat ("Checker", "box_names") (by decide +kernel), Nat.lt_of_le_of_lt put_le (by simp), q _ ?_ (by rw [upd_same]; rfl)⟩
  exact ((SameX.put _).trans (.put _)).trans (.put _)
/-- {n: .. for n, v in d.items()} -/
theorem itemsDc {K : PySem.W.Frag} {H1 : Hp} {a : Addr} {ns : List Str} {vs : List V} (ha : H1 a = some (.dK (kvz ns vs))) (nd : ns.Nodup) (lv : vs.length = ns.length) (us : List V) (lu : us.length = ns.length) {td : TE} {g : TG} {tt : TT} {tk tv : TE} {vsl : List Nat} {σ : L2.St} {Q : VK}
    (htd : ∀ (od : Obj) (R : V → Hp → Prop), R (.ref a) (upd H1 a (.frz od (.dK (kvz ns vs)))) → td σ (upd H1 a (.frz od (.dK (kvz ns vs)))) R)
    (hs : ∀ (L : Hp) D i T n v H2 H3, L D = none → ns[i]? = some n → vs[i]? = some v → DcZ L D ns us i H2 → Same H2 H3 → Tups H1 H3 → SqT K H3 T [.str n, v] → g (.ref T) (wipe σ vsl) H3 fun σ2 H4 => wipe σ2 vsl = wipe σ vsl ∧ tt σ2 H4 fun b H5 =>
      if b = true then tk σ2 H5 fun y H6 => tv σ2 H6 fun z H7 => ∃ kvs k, y = kV k ∧ H7 D = some (.dK kvs) ∧ kvs.length < sizeLine ∧ DcZ L D ns us (i + 1) (upd H7 D (.dK (putK kvs k z))) else DcZ L D ns us (i + 1) H5)
    (q : ∀ D H', H1 D = none → Same H1 H' → H' D = some (.dK (kvz ns us)) → Q (.ref D) H') : tLockE (tDc (iItems td) g tt tk tv vsl) σ H1 Q := by
  refine ⟨a, _, ha, trivial, fun od => ?_⟩
  rw [tDc_eq]
  refine htd od _ ⟨a, od, _, rfl, upd_same, ?_⟩
  refine dcGo walk_items ns us (kvz_len lv).symm (by rw [kvz_len lv, lu]) (fun H' s' => s' _ _ upd_same) ?_ ?_
  · intro D i x H2 H3 nD hi z hy
    obtain ⟨T', k, w, rfl, h1, h2, s4, hT'⟩ := pair_ask (K := K) hy
    obtain ⟨kv, ekv, hk⟩ := Option.map_eq_some_iff.mp h1
    obtain ⟨n, en, hk2, hv⟩ := kvz_of ekv
    rw [ekv] at h2
    obtain rfl := Option.some.inj h2
    rw [hk2] at hk
    subst hk
    exact hs _ D i T' n _ H2 H3 nD en hv z s4 (((tups_lock ha _).trans (tups_of z.1)).trans (tups_of s4)) hT'
  · intro D H2 nD s2 e2
    have ne : D ≠ a := by
      rintro rfl
      rw [upd_same] at nD
      cases nD
    exact ⟨s2 _ _ upd_same, q D _ (by rw [upd_ne ne] at nD; exact nD) (same_unlock ha s2) (by rw [upd_ne ne]; exact e2)⟩
/-- x = {n: .. for n, v in d.items()} -/
theorem itemsDcS {K : PySem.W.Frag} {H1 : Hp} {a : Addr} {ns : List Str} {vs : List V} (ha : H1 a = some (.dK (kvz ns vs))) (nd : ns.Nodup) (lv : vs.length = ns.length) (us : List V) (lu : us.length = ns.length) {td : TE} {g : TG} {tt : TT} {tk tv : TE} {vsl : List Nat} {σ : L2.St} {j : Nat} {D : Ends}
    (htd : ∀ (od : Obj) (R : V → Hp → Prop), R (.ref a) (upd H1 a (.frz od (.dK (kvz ns vs)))) → td σ (upd H1 a (.frz od (.dK (kvz ns vs)))) R)
    (hs : ∀ (L : Hp) D i T n v H2 H3, L D = none → ns[i]? = some n → vs[i]? = some v → DcZ L D ns us i H2 → Same H2 H3 → Tups H1 H3 → SqT K H3 T [.str n, v] → g (.ref T) (wipe σ vsl) H3 fun σ2 H4 => wipe σ2 vsl = wipe σ vsl ∧ tt σ2 H4 fun b H5 =>
      if b = true then tk σ2 H5 fun y H6 => tv σ2 H6 fun z H7 => ∃ kvs k, y = kV k ∧ H7 D = some (.dK kvs) ∧ kvs.length < sizeLine ∧ DcZ L D ns us (i + 1) (upd H7 D (.dK (putK kvs k z))) else DcZ L D ns us (i + 1) H5)
    (q : ∀ A H', H1 A = none → Same H1 H' → H' A = some (.dK (kvz ns us)) → D.nx (σ.set j (some (.ref A))) H') : tLock (tAsg (tDc (iItems td) g tt tk tv vsl) (gName j)) D σ H1 := by
  refine ⟨a, _, ha, trivial, fun od => ?_⟩
  show tDc (iItems td) g tt tk tv vsl σ _ _
  rw [tDc_eq]
  refine htd od _ ⟨a, od, _, rfl, upd_same, ?_⟩
  refine dcGo walk_items ns us (kvz_len lv).symm (by rw [kvz_len lv, lu]) (fun H' s' => s' _ _ upd_same) ?_ ?_
  · intro D i x H2 H3 nD hi z hy
    obtain ⟨T', k, w, rfl, h1, h2, s4, hT'⟩ := pair_ask (K := K) hy
    obtain ⟨kv, ekv, hk⟩ := Option.map_eq_some_iff.mp h1
    obtain ⟨n, en, hk2, hv⟩ := kvz_of ekv
    rw [ekv] at h2
    obtain rfl := Option.some.inj h2
    rw [hk2] at hk
    subst hk
    exact hs _ D i T' n _ H2 H3 nD en hv z s4 (((tups_lock ha _).trans (tups_of z.1)).trans (tups_of s4)) hT'
  · intro A H2 nD s2 e2
    have ne : A ≠ a := by
      rintro rfl
      rw [upd_same] at nD
      cases nD
    exact ⟨s2 _ _ upd_same, q A _ (by rw [upd_ne ne] at nD; exact nD) (same_unlock ha s2) (by rw [upd_ne ne]; exact e2)⟩
/-! ### a program -/
def cntAll (fs : List Fn91) : Nat := (fs.map fun f => cntB 8 f.body).sum
theorem defs_split {K : PySem.W.Frag} {H : Hp} : ∀ {fv : List V} {fs : List Fn91}, DtAll K H fv (fs.map Fn91.data) → ∃ hv bv, hv.length = fs.length ∧ bv.length = fs.length ∧ DtAll K H hv (fs.map fun f => .tuple (f.heads.map .str)) ∧ DtAll K H bv (fs.map Fn91.body) ∧
    ∀ (i : Nat) (v : V), fv[i]? = some v → ∃ a x y, v = .ref a ∧ SqT K H a [x, y] ∧ hv[i]? = some x ∧ bv[i]? = some y
  | _, [], h => ⟨[], [], rfl, rfl, .nil, .nil, fun i v e => by rw [h.nilI] at e; cases e⟩
  | _, f :: fs, h => by
    obtain ⟨v, us, rfl, h1, h2⟩ := DtAll.consI h
    obtain ⟨hv, bv, l1, l2, g1, g2, g3⟩ := defs_split h2
    obtain ⟨a, xs, rfl, hT, hX⟩ := h1.tupI
    obtain ⟨x, _, rfl, k1, hX⟩ := hX.consI
    obtain ⟨y, _, rfl, k2, hX⟩ := hX.consI
    obtain rfl := hX.nilI
    refine ⟨x :: hv, y :: bv, by simp [l1], by simp [l2], .cons k1 g1, .cons k2 g2, fun i v e => ?_⟩
    cases i with
    | zero => exact ⟨a, x, y, (Option.some.inj e).symm, hT, rfl, rfl⟩
    | succ i => exact g3 i v (by simpa using e)
/-- all but p stays, tuples stay -/
structure SX (p : Addr) (H H' : Hp) : Prop where
  x : SameX p H H'
  t : Tups H H'
theorem SX.of {p : Addr} {H H' : Hp} (s : Same H H') : SX p H H' := ⟨.of s, tups_of s⟩
theorem SX.trans {p : Addr} {H H1 H2 : Hp} (a : SX p H H1) (b : SX p H1 H2) : SX p H H2 := ⟨a.x.trans b.x, a.t.trans b.t⟩
theorem SX.put {p C dx : Addr} {fs : List (Str × V)} {H : Hp} (h : H p = some (.ins C dx fs)) (o : HO) : SX p H (upd H p o) := ⟨.put o, tups_put o h (fun _ z => by cases z) fun _ _ z => by cases z⟩
theorem SX.same {p C dx : Addr} {fs : List (Str × V)} {H H' : Hp} (h : H p = some (.ins C dx fs)) (s : Same H H') : H' p = some (.ins C dx fs) := s _ _ h
def FIELDS91 : List Str := ["heads", "bodies", "rows", "tables", "listed"]
theorem fields91 {f : Str} (h : f ∈ FIELDS91) : (("Program", f) : Str × Str) ∈ kNoat := by
  have e : FIELDS91.all (fun f => decide ((("Program", f) : Str × Str) ∈ kNoat)) = true := by decide +kernel
  exact of_decide_eq_true (List.all_eq_true.mp e f h)
theorem kvz_keys : ∀ {ns : List Str} {vs : List V}, vs.length = ns.length → (kvz ns vs).map (fun kv => kV kv.1) = ns.map V.str
  | [], vs, _ => rfl
  | n :: ns, [], h => by cases h
  | n :: ns, v :: vs, h => by
    have ih := kvz_keys (ns := ns) (vs := vs) (by simpa using h)
    unfold kvz at ih ⊢
    simp only [List.map_cons, List.zip_cons_cons, ih]
    rfl
theorem kvz_sizes : ∀ (fs : List Fn91), kvz (fs.map Fn91.name) (fs.map fun f => V.int (f.heads.length : Nat)) = sizesK (fs.map fun f => (f.name, f.heads.length))
  | [] => rfl
  | f :: fs => by
    have ih := kvz_sizes fs
    unfold kvz sizesK at ih ⊢
    simp only [List.map_cons, List.zip_cons_cons, ih]
def ProgF (K : PySem.W.Frag) (H : Hp) (fs : List Fn91) (bs : List Box91) (h b r l : Addr) : Prop := ∃ hv bv rv us,
  H h = some (.dK (kvz (fs.map Fn91.name) hv)) ∧ DtAll K H hv (fs.map fun f => .tuple (f.heads.map .str)) ∧ H b = some (.dK (kvz (fs.map Fn91.name) bv)) ∧ DtAll K H bv (fs.map Fn91.body) ∧
  H r = some (.dK (kvz (bs.map Box91.name) rv)) ∧ DtAll K H rv (bs.map Box91.data) ∧ H l = some (.lst us) ∧ us.length = cntAll fs
def ProgAt (K : PySem.W.Frag) (H : Hp) (p : Addr) (fs : List Fn91) (bs : List Box91) : Prop := ∃ dx h b r t l, H p = some (.ins (He.ga K "Program") dx [("heads", .ref h), ("bodies", .ref b), ("rows", .ref r), ("tables", .ref t), ("listed", .ref l)]) ∧ ProgF K H fs bs h b r l
theorem none_back {H H' : Hp} {x : Addr} (s : Same H H') (n : H' x = none) : H x = none := by
  cases e : H x with
  | none => rfl
  | some u => rw [s _ _ e] at n; cases n
theorem none_backX {p : Addr} {H H' : Hp} {x : Addr} (s : SameX p H H') (h : x ≠ p) (n : H' x = none) : H x = none := by
  cases e : H x with
  | none => rfl
  | some u => rw [s _ _ h e] at n; cases n
/-- the same, its dicts new -/
def ProgN (K : PySem.W.Frag) (H0 H : Hp) (p : Addr) (fs : List Fn91) (bs : List Box91) : Prop := ∃ dx h b r t l, H0 h = none ∧ H0 b = none ∧ H0 r = none ∧ H p = some (.ins (He.ga K "Program") dx [("heads", .ref h), ("bodies", .ref b), ("rows", .ref r), ("tables", .ref t), ("listed", .ref l)]) ∧ ProgF K H fs bs h b r l
theorem ProgN.at {K : PySem.W.Frag} {H0 H : Hp} {p : Addr} {fs : List Fn91} {bs : List Box91} (h : ProgN K H0 H p fs bs) : ProgAt K H p fs bs := by
  obtain ⟨dx, h, b, r, t, l, _, _, _, hp⟩ := h
  exact ⟨dx, h, b, r, t, l, hp⟩
theorem ProgN.back {K : PySem.W.Frag} {H0 H1 H : Hp} {p : Addr} {fs : List Fn91} {bs : List Box91} (h : ProgN K H1 H p fs bs) (s : Same H0 H1) : ProgN K H0 H p fs bs := by
  obtain ⟨dx, h, b, r, t, l, n1, n2, n3, hp⟩ := h
  exact ⟨dx, h, b, r, t, l, none_back s n1, none_back s n2, none_back s n3, hp⟩
/-- statements that the checks let pass -/
def ctxOf (fs : List Fn91) (bs : List Box91) : Cx91 := ⟨fs.map fun f => (f.name, f.heads.length), bs.map Box91.name⟩
def progOk (fs : List Fn91) (bs : List Box91) : Prop := fnsOk fs ∧ boxesOk bs ∧ (∀ f ∈ fs, bodyOk (ctxOf fs bs) 8 0 f.body) ∧ cntAll fs ≤ 100000
def spProgInit (K : PySem.W.Frag) : Sp := fun vs H Q _ => ∃ p dx a l fs bs, vs = [.ref p, .ref a, .ref l] ∧ H p = some (.ins (He.ga K "Program") dx []) ∧ TabAt K H a fs ∧ RowsAt K H l bs ∧ progOk fs bs ∧ a ≠ p ∧ l ≠ p ∧ ∀ H', SameX p H H' → ProgN K H H' p fs bs → Q .non H'
theorem ok_Program___init__ (T : Top K mg w)  : FnK P w K mg base 40 (He.ma K (He.ga K "Program") "__init__") (spProgInit K) 2 ["boxes"] := by
  obtain ⟨fd, F⟩ := T.def_ d_Program___init__ (List.mem_of_getElem? (i := 18) rfl)
  refine mkK F sc_Program___init__ (fun _ _ _ _ _ _ us ws h1 h2 => match us, ws, h1, h2 with | [_, _], [_], _, _ => rfl) (fun vs H Q E h => ?_) (fun cdv A outer s H vs Q E hr h => ?_)
  · obtain ⟨p, dx, a, l, fs, bs, rfl, _⟩ := h; rfl
  obtain ⟨p, dx, a, l, fs, bs, rfl, hp, hf, hr1, ⟨o1, o2, o3, o4⟩, na, nl, q⟩ := h
  have G_check_tables := ok_check_tables (P := P) (w := w) (base := base) T
  have G_Checker := ok_Checker___init__ (P := P) (w := w) (base := base) T
  have G_Checker_check_body := ok_Checker_check_body (P := P) (w := w) (base := base) T 8
  have G_statements_in := ok_statements_in (P := P) (w := w) (base := base) T 8
  refine ⟨_, pss_cons (ps_expr (pcall G_check_tables hr (T.glo "check_tables" (by decide +kernel)) (pa_cons (pv 1) (pa_cons (pv 2) pa_nil))))
    (pss_cons (ps_fld (pv 0) (pe_lock (pe_dc (own := [("function", 4), ("definition", 6)]) (g := (gTup K 2 (gCons (gName 4) (gCons (gName 6) gNil)))) (tt := tYes) rfl sc_Program___init__.nd (pi_items (pv 1)) (blkOk_by (own := [("function", 4), ("definition", 6)]) (N := ["self", "functions", "boxes", "sizes", "function", "body", "definition", "box", "parameters", "pair"]) (sc := defScope s_Program___init__) (by decide +kernel)) (fun _ _ _ _ _ => (pg_tup (n := 2) rfl (pgs_cons (pg_name (i := 4) sc_Program___init__.nd rfl (by first | exact Or.inl rfl | exact Or.inr rfl)) (pgs_cons (pg_name (i := 6) sc_Program___init__.nd rfl (by first | exact Or.inl rfl | exact Or.inr rfl)) pgs_nil)))) (fun _ _ _ _ _ => pts_nil) (fun _ _ _ _ _ => (pv 4)) (fun _ _ _ _ _ => (pe_ix (r := rIxT K) ix_tup (pv 6) pe_int (fun _ _ => rfl))))) rfl)
    (pss_cons (ps_fld (pv 0) (pe_lock (pe_dc (own := [("function", 4), ("definition", 6)]) (g := (gTup K 2 (gCons (gName 4) (gCons (gName 6) gNil)))) (tt := tYes) rfl sc_Program___init__.nd (pi_items (pv 1)) (blkOk_by (own := [("function", 4), ("definition", 6)]) (N := ["self", "functions", "boxes", "sizes", "function", "body", "definition", "box", "parameters", "pair"]) (sc := defScope s_Program___init__) (by decide +kernel)) (fun _ _ _ _ _ => (pg_tup (n := 2) rfl (pgs_cons (pg_name (i := 4) sc_Program___init__.nd rfl (by first | exact Or.inl rfl | exact Or.inr rfl)) (pgs_cons (pg_name (i := 6) sc_Program___init__.nd rfl (by first | exact Or.inl rfl | exact Or.inr rfl)) pgs_nil)))) (fun _ _ _ _ _ => pts_nil) (fun _ _ _ _ _ => (pv 4)) (fun _ _ _ _ _ => (pe_ix (r := rIxT K) ix_tup (pv 6) pe_int (fun _ _ => rfl))))) rfl)
    (pss_cons (ps_fld (pv 0) (pe_dc (own := [("box", 7)]) (g := (gName 7)) (tt := tYes) rfl sc_Program___init__.nd (pi_list (pv 2)) (blkOk_by (own := [("box", 7)]) (N := ["self", "functions", "boxes", "sizes", "function", "body", "definition", "box", "parameters", "pair"]) (sc := defScope s_Program___init__) (by decide +kernel)) (fun _ _ _ _ _ => (pg_name (i := 7) sc_Program___init__.nd rfl (by first | exact Or.inl rfl | exact Or.inr rfl))) (fun _ _ _ _ _ => pts_nil) (fun _ _ _ _ _ => (pe_ix (r := rIxT K) ix_tup (pv 7) pe_int (fun _ _ => rfl))) (fun _ _ _ _ _ => (pv 7))) rfl)
    (pss_cons (ps_fld (pv 0) pe_dnewK rfl)
    (pss_cons (ps_lock (ps_setDc (i := 3) (own := [("function", 4), ("parameters", 8)]) (g := (gTup K 2 (gCons (gName 4) (gCons (gName 8) gNil)))) (tt := tYes) rfl sc_Program___init__.nd rfl rfl (sw_trueD rfl rfl rfl (by decide +kernel)) (pi_items (pe_fld (pv 0) rfl)) (blkOk_by (own := [("function", 4), ("parameters", 8)]) (N := ["self", "functions", "boxes", "sizes", "function", "body", "definition", "box", "parameters", "pair"]) (sc := defScope s_Program___init__) (by decide +kernel)) (fun _ _ _ _ _ => (pg_tup (n := 2) rfl (pgs_cons (pg_name (i := 4) sc_Program___init__.nd rfl (by first | exact Or.inl rfl | exact Or.inr rfl)) (pgs_cons (pg_name (i := 8) sc_Program___init__.nd rfl (by first | exact Or.inl rfl | exact Or.inr rfl)) pgs_nil)))) (fun _ _ _ _ _ => pts_nil) (fun _ _ _ _ _ => (pv 4)) (fun _ _ _ _ _ => (pe_callB (r := fun xs H Q => ∃ x n, xs = [x] ∧ LenV K x H n ∧ Q (.int n) H) call_len (by rfl) (T.free "len" (by decide +kernel)) (by decide +kernel) (pa_cons (pv 8) pa_nil)))))
    (pss_cons (ps_lock (ps_for PassesOwn.never rfl (pi_items (pe_fld (pv 0) rfl)) (pg_tup (n := 2) rfl (pgs_cons (pg_name (i := 4) sc_Program___init__.nd rfl (by first | exact Or.inl rfl | exact Or.inr rfl)) (pgs_cons (pg_name (i := 5) sc_Program___init__.nd rfl (by first | exact Or.inl rfl | exact Or.inr rfl)) pgs_nil)))
    (pss_one (ps_expr (pe_methR (pmk G_Checker hr (T.cls "Checker" (by decide +kernel)).2 (T.glo "Checker" (by decide +kernel)).1 (pa_cons (pv 4) (pa_cons (pv 3) (pa_cons (pe_callTy (call_listD rfl) (by rfl) (T.free "list" (by decide +kernel)) (by decide +kernel) (pa_cons (pe_fld (pv 0) rfl) pa_nil)) pa_nil)))) (T.cls "Checker" (by decide +kernel)).1 (T.meth ("Checker", "check_body") (by decide +kernel)) G_Checker_check_body (hr.mono (by omega)) pass0 (pa_cons (pv 5) (pa_cons (pe_tup pa_nil) (pa_cons pe_int (pa_cons pe_int pa_nil)))))))))
    (pss_one (ps_fld (pv 0) (pe_lock (pe_lc2 (own := [("body", 5), ("pair", 9)]) (vs1 := [9]) (g := (gName 5)) (g1 := (gName 9)) (tt := tYes) (tt1 := tYes) (wi1 := iList K (tCallR (spStsIn K 8) (tCons (tVar 5) tNil))) rfl sc_Program___init__.nd (pi_values (pe_fld (pv 0) rfl)) (blkOk_by (own := [("body", 5), ("pair", 9)]) (N := ["self", "functions", "boxes", "sizes", "function", "body", "definition", "box", "parameters", "pair"]) (sc := defScope s_Program___init__) (by decide +kernel)) (by decide) (fun _ _ _ _ _ => (pg_name (i := 5) sc_Program___init__.nd rfl (by first | exact Or.inl rfl | exact Or.inr rfl))) (fun _ _ _ _ _ => pts_nil) (fun _ _ _ _ _ => (pi_list (pcall G_statements_in hr (T.glo "statements_in" (by decide +kernel)) (pa_cons (pv 5) pa_nil)))) (fun _ _ _ _ _ => (pg_name (i := 9) sc_Program___init__.nd rfl (by first | exact Or.inl rfl | exact Or.inr rfl))) (fun _ _ _ _ _ => pts_nil) (fun _ _ _ _ _ => (pv 9)))) rfl)))))))), ?_⟩
  have c := (T.cls "Program" (by decide +kernel)).1
  walk_at "st"
  refine ⟨a, l, fs, bs, by simp, hf, hr1, o1, o2, fun H1 s1 => ?_⟩
  have hf1 := hf.same s1
  obtain ⟨fv, hfv, hA⟩ := hf1
  have lf := dta_len hA
  rw [List.length_map] at lf
  have nd := o1.2.2.2.1
  have lk : (kvz (fs.map Fn91.name) fv).length = fs.length := by rw [kvz_len (by rw [List.length_map]; omega), List.length_map]
  obtain ⟨hv, bv, lh, lb, gh, gb, gt⟩ := defs_split hA
  refine sq ?_
  rw [sFld_eq]
  refine itemsDc (K := K) hfv nd (by rw [List.length_map]; omega) hv (by rw [List.length_map]; omega) (fun _ _ r => ⟨_, rfl, r⟩) ?_ fun h H2 nnh s2 eh => ?_
  · intro L D i T n v H2 H3 nD en ev z s3 t3 hT
    obtain ⟨a', x', y', rfl, hT', e1, e2⟩ := gt i v ev
    walk_at "wp"
    refine ⟨_, hT, rfl, _, _, rfl, _, _, rfl, rfl, ixT_at 0 (t3.sqT hT') rfl ?_⟩
    exact dcz_step nD nd (by rw [List.length_map]; omega) (by rw [List.length_map]; have := o1.2.1; have := line_big; omega) z s3 en e1
  walk_at "wp"
  have hp2 := s2 _ _ (s1 _ _ hp)
  refine fput hp2 c (T.noat ("Program", "heads") (by decide +kernel)) (fs' := [("heads", .ref h)]) rfl (by decide) ?_
  have X3 := ((SX.of s1 (p := p)).trans (.of s2)).trans (.put hp2 (.ins (He.ga K "Program") dx [("heads", .ref h)]))
  have Y3 := (SX.of s2 (p := p)).trans (.put hp2 (.ins (He.ga K "Program") dx [("heads", .ref h)]))
  have hp3 : (upd H2 p (.ins (He.ga K "Program") dx [("heads", .ref h)])) p = some (.ins (He.ga K "Program") dx [("heads", .ref h)]) := upd_same
  have nh : h ≠ p := by rintro rfl; rw [eh] at hp2; cases hp2
  have eh3 := (SX.put hp2 (.ins (He.ga K "Program") dx [("heads", .ref h)])).x _ _ nh eh
  have X3n := X3
  generalize upd H2 p (.ins (He.ga K "Program") dx [("heads", .ref h)]) = H3 at X3n X3 Y3 hp3 eh3 ⊢
  refine sq ?_
  rw [sFld_eq]
  refine itemsDc (K := K) (Y3.x _ _ na hfv) nd (by rw [List.length_map]; omega) bv (by rw [List.length_map]; omega) (fun _ _ r => ⟨_, rfl, r⟩) ?_ fun b H4 nnb s4 eb => ?_
  · intro L D i T n v H2 H3 nD en ev z s3 t3 hT
    obtain ⟨a', x', y', rfl, hT', e1, e2⟩ := gt i v ev
    walk_at "wp"
    refine ⟨_, hT, rfl, _, _, rfl, _, _, rfl, rfl, ixT_at 1 ((Y3.t.trans t3).sqT hT') rfl ?_⟩
    exact dcz_step nD nd (by rw [List.length_map]; omega) (by rw [List.length_map]; have := o1.2.1; have := line_big; omega) z s3 en e2
  walk_at "wp"
  have hp4 := s4 _ _ hp3
  refine fput hp4 c (T.noat ("Program", "bodies") (by decide +kernel)) (fs := [("heads", .ref h)]) (fs' := [("heads", .ref h), ("bodies", .ref b)]) rfl (by simp) ?_
  have Z5 := SX.put hp4 (.ins (He.ga K "Program") dx [("heads", .ref h), ("bodies", .ref b)])
  have X5 := (X3.trans (.of s4)).trans Z5
  have Y5 := (Y3.trans (.of s4)).trans Z5
  have hp5 : (upd H4 p (.ins (He.ga K "Program") dx [("heads", .ref h), ("bodies", .ref b)])) p = some (.ins (He.ga K "Program") dx [("heads", .ref h), ("bodies", .ref b)]) := upd_same
  have nb : b ≠ p := by rintro rfl; rw [eb] at hp4; cases hp4
  have eb5 := Z5.x _ _ nb eb
  have eh5 := Z5.x _ _ nh (s4 _ _ eh3)
  have X5n := X5
  generalize upd H4 p (.ins (He.ga K "Program") dx [("heads", .ref h), ("bodies", .ref b)]) = H5 at X5n X5 Y5 hp5 eh5 eb5 ⊢
  obtain ⟨rv, hrv, hR⟩ := hr1
  have lr := dta_len hR
  rw [List.length_map] at lr
  refine sq ?_
  rw [sFld_eq, tDc_eq]
  walk_at "wp"
  have hl5 := X5.x _ _ nl hrv
  refine ⟨⟨_, .of hl5⟩, dcGo (walk_list (xs := rv)) (bs.map Box91.name) rv (by rw [List.length_map]; omega) rfl (fun H' s' => .of (s' _ _ hl5)) ?_ fun r H6 nr s6 er => ?_⟩
  · rintro D i x H2 H3 nD hi z ⟨eH, ex⟩
    subst eH
    have ei : bs[i]? = some (bs[i]'(by omega)) := List.getElem?_eq_getElem (by omega)
    obtain ⟨v, hv', hd⟩ := dta_get (hR.keep (X5.t.trans (tups_of z.1))) (i := i) (d := (bs[i]'(by omega)).data) (by rw [List.getElem?_map, ei]; rfl)
    rw [ex] at hv'
    obtain rfl := Option.some.inj hv'
    obtain ⟨a', xs, rfl, hT, hX⟩ := hd.tupI
    obtain ⟨v0, _, rfl, g0, hX⟩ := hX.consI
    obtain ⟨rfl, z0⟩ := g0.strI
    walk_at "wp"
    refine ixT_at 0 hT rfl ?_
    exact dcz_step nD o2.2.2 (by rw [List.length_map]; omega) (by rw [List.length_map]; have := o2.1; have := line_big; omega) z (.refl _) (by rw [List.getElem?_map, ei]; rfl) ex
  have hp6 := s6 _ _ hp5
  refine fput hp6 c (T.noat ("Program", "rows") (by decide +kernel)) (fs := [("heads", .ref h), ("bodies", .ref b)]) (fs' := [("heads", .ref h), ("bodies", .ref b), ("rows", .ref r)]) rfl (by simp) ?_
  have Z7 := SX.put hp6 (.ins (He.ga K "Program") dx [("heads", .ref h), ("bodies", .ref b), ("rows", .ref r)])
  have X7 := (X5.trans (.of s6)).trans Z7
  have Y7 := (Y5.trans (.of s6)).trans Z7
  have hp7 : (upd H6 p (.ins (He.ga K "Program") dx [("heads", .ref h), ("bodies", .ref b), ("rows", .ref r)])) p = some (.ins (He.ga K "Program") dx [("heads", .ref h), ("bodies", .ref b), ("rows", .ref r)]) := upd_same
  have nr' : r ≠ p := by rintro rfl; rw [er] at hp6; cases hp6
  have er7 := Z7.x _ _ nr' er
  have eb7 := Z7.x _ _ nb (s6 _ _ eb5)
  have eh7 := Z7.x _ _ nh (s6 _ _ eh5)
  generalize upd H6 p (.ins (He.ga K "Program") dx [("heads", .ref h), ("bodies", .ref b), ("rows", .ref r)]) = H7 at X7 Y7 hp7 eh7 eb7 er7 ⊢
  refine sq ?_
  walk_at "wp"
  intro t nt
  have s8 := same_new nt (.dK [])
  have hp8 := s8 _ _ hp7
  refine fput hp8 c (T.noat ("Program", "tables") (by decide +kernel)) (fs := [("heads", .ref h), ("bodies", .ref b), ("rows", .ref r)]) (fs' := [("heads", .ref h), ("bodies", .ref b), ("rows", .ref r), ("tables", .ref t)]) rfl (by simp) ?_
  have Z9 := SX.put hp8 (.ins (He.ga K "Program") dx [("heads", .ref h), ("bodies", .ref b), ("rows", .ref r), ("tables", .ref t)])
  have X9 := (X7.trans (.of s8)).trans Z9
  have Y9 := (Y7.trans (.of s8)).trans Z9
  have hp9 : (upd (upd H7 t (.dK [])) p (.ins (He.ga K "Program") dx [("heads", .ref h), ("bodies", .ref b), ("rows", .ref r), ("tables", .ref t)])) p = some (.ins (He.ga K "Program") dx [("heads", .ref h), ("bodies", .ref b), ("rows", .ref r), ("tables", .ref t)]) := upd_same
  have er9 := Z9.x _ _ nr' (s8 _ _ er7)
  have eb9 := Z9.x _ _ nb (s8 _ _ eb7)
  have eh9 := Z9.x _ _ nh (s8 _ _ eh7)
  generalize upd (upd H7 t (.dK [])) p (.ins (He.ga K "Program") dx [("heads", .ref h), ("bodies", .ref b), ("rows", .ref r), ("tables", .ref t)]) = H9 at X9 Y9 hp9 eh9 eb9 er9 ⊢
  have cn (f : Str) (hf : f ∈ FIELDS91) : NoAttr K (He.ga K "Program") f := T.noat ("Program", f) (fields91 hf)
  refine sq ?_
  refine itemsDcS (K := K) eh9 nd (by rw [List.length_map]; omega) (fs.map fun f => V.int (f.heads.length : Nat)) (by rw [List.length_map, List.length_map]) (fun od R rr => ?_) ?_ fun ds H10 nds s10 eds => ?_
  · have hp9' : (upd H9 h (.frz od (.dK (kvz (fs.map Fn91.name) hv)))) p = some (.ins (He.ga K "Program") dx [("heads", .ref h), ("bodies", .ref b), ("rows", .ref r), ("tables", .ref t)]) := by rw [upd_ne (Ne.symm nh)]; exact hp9
    walk_at "wp"
    exact fldw hp9' c (cn "heads" (by decide)) rfl rr
  · intro L D i T' n v H2 H3 nD en ev z s3 t3 hT
    obtain ⟨d, ed, gd⟩ := dta_of (gh.keep ((Y9.t).trans t3)) ev
    obtain ⟨f, ef, rfl⟩ := Option.map_eq_some_iff.mp (by rw [← List.getElem?_map]; exact ed)
    obtain ⟨a', xs, rfl, hT', hX⟩ := gd.tupI
    have lx := dta_len hX
    rw [List.length_map] at lx
    walk_at "wp"
    refine ⟨_, hT, rfl, _, _, rfl, _, _, rfl, rfl, _, .inr ⟨_, hT', rfl⟩, ?_⟩
    rw [lx]
    exact dcz_step nD nd (by rw [List.length_map, List.length_map]) (by rw [List.length_map]; have := o1.2.1; have := line_big; omega) z s3 en (by rw [List.getElem?_map, ef]; rfl)
  walk_at "wp"
  refine sq ?_
  walk_at "wp"
  have hp10 := s10 _ _ hp9
  have eb10 := s10 _ _ eb9
  have er10 := s10 _ _ er9
  have hpL (od : Obj) : (upd H10 b (.frz od (.dK (kvz (fs.map Fn91.name) bv)))) p = some (.ins (He.ga K "Program") dx [("heads", .ref h), ("bodies", .ref b), ("rows", .ref r), ("tables", .ref t)]) := by rw [upd_ne (Ne.symm nb)]; exact hp10
  have nrb : r ≠ b := by rintro rfl; rw [eb5] at nr; cases nr
  have ndb : ds ≠ b := by rintro rfl; rw [eb9] at nds; cases nds
  refine ⟨b, _, eb10, trivial, fun od => fldw (hpL od) c (cn "bodies" (by decide)) rfl ⟨b, rfl, od, _, upd_same, forGo walk_items (fun i σ H' => ∃ x4 x5, σ = [some (V.ref p), some (V.ref a), some (V.ref l), some (V.ref ds), x4, x5, none, none, none, none] ∧ Same (upd H10 b (.frz od (.dK (kvz (fs.map Fn91.name) bv)))) H')
    ⟨_, _, rfl, .refl _⟩ (fun _ _ _ _ ⟨_, _, _, s3⟩ => s3 _ _ upd_same) ?_ ?_⟩⟩
  · rintro i y σ H2 H3 hi ⟨x4, x5, rfl, s3⟩ hy
    obtain ⟨T', k, w', rfl, h1, h2, s4, hT'⟩ := pair_ask (K := K) hy
    obtain ⟨kv, ekv, hk⟩ := Option.map_eq_some_iff.mp h1
    obtain ⟨n, en, hk2, hv'⟩ := kvz_of ekv
    rw [ekv] at h2
    obtain rfl := Option.some.inj h2
    rw [hk2] at hk
    subst hk
    obtain ⟨d, ed, gd⟩ := dta_of gb hv'
    obtain ⟨f, ef, rfl⟩ := Option.map_eq_some_iff.mp (by rw [← List.getElem?_map]; exact ed)
    have t4 := (((Y9.t.trans (tups_of s10)).trans (tups_lock eb10 (.frz od (.dK (kvz (fs.map Fn91.name) bv))))).trans (tups_of s3)).trans (tups_of s4)
    have s34 := s3.trans s4
    have er3 : H3 r = some (.dK (kvz (bs.map Box91.name) rv)) := s34 _ _ (by rw [upd_ne nrb]; exact er10)
    walk_at "wp"
    refine ⟨_, hT', rfl, _, _, rfl, _, _, rfl, rfl, ?_⟩
    refine fldw (s34 _ _ (hpL od)) c (cn "rows" (by decide)) rfl ?_
    have lrv : rv.length = (bs.map Box91.name).length := by rw [List.length_map]; omega
    refine ⟨r, rfl, _, .inl er3, fun bl nbl x dx' nx ndx' nxd => ?_⟩
    rw [kvz_keys lrv] at nx ndx' ⊢
    have s5 := same_new nbl (.lst ((bs.map Box91.name).map V.str))
    have s6' := same_make (C := He.ga K "Checker") nx ndx'
    refine ⟨x, dx', _, _, _, rfl, upd_same, fun H6' x6 e6 => ⟨rfl, dx', _, e6, rfl, by omega, fun tp ntp => ?_⟩⟩
    have s7 : Same H3 H6' := s5.trans (SameX.new nx ndx' nxd (C := He.ga K "Checker") x6)
    have s8' := same_new ntp (.tup [])
    have s78 := s7.trans s8'
    have hbl : H6' bl = some (.lst ((bs.map Box91.name).map V.str)) := (SameX.new nx ndx' nxd (C := He.ga K "Checker") x6) _ _ upd_same
    have hds : H3 ds = some (.dK (kvz (fs.map Fn91.name) (fs.map fun f => V.int (f.heads.length : Nat)))) := s34 _ _ (by rw [upd_ne ndb]; exact eds)
    refine ⟨x, _, tp, ctxOf fs bs, f.body, 1, 0, [], by simp, ⟨dx', _, ds, bl, s8' _ _ e6, ?_, s8' _ _ hbl⟩, gd.keep (t4.trans (tups_of s78)), o3 f (List.mem_of_getElem? ef), by omega, .inl (.inl upd_same), by simp, fun H8 s9 => s34.trans (s78.trans s9)⟩
    rw [s78 _ _ hds, kvz_sizes]
    rfl
  rintro σ H11 ⟨x4, x5, rfl, s11⟩
  have s11' := same_unlock eb10 s11
  refine ⟨s11 _ _ upd_same, ?_⟩
  have hp11 := s11' _ _ hp10
  have eb11 := s11' _ _ eb10
  have er11 := s11' _ _ er10
  have eh11 := s11' _ _ (s10 _ _ eh9)
  have X11 := (X9.trans (.of s10)).trans (.of s11')
  have Y11 := (Y9.trans (.of s10)).trans (.of s11')
  generalize upd H11 b (.dK (kvz (fs.map Fn91.name) bv)) = H12 at s11' hp11 eb11 er11 eh11 X11 Y11 ⊢
  have hpM (od : Obj) : (upd H12 b (.frz od (.dK (kvz (fs.map Fn91.name) bv)))) p = some (.ins (He.ga K "Program") dx [("heads", .ref h), ("bodies", .ref b), ("rows", .ref r), ("tables", .ref t)]) := by rw [upd_ne (Ne.symm nb)]; exact hp11
  walk_at "wp"
  refine ⟨b, _, eb11, trivial, fun od => fldw (hpM od) c (cn "bodies" (by decide)) rfl ⟨b, rfl, od, _, upd_same, ?_⟩⟩
  have lkb : (kvz (fs.map Fn91.name) bv).length = fs.length := by rw [kvz_len (by rw [List.length_map]; omega), List.length_map]
  refine lc2Go walk_values (fun i acc _ => acc.length = ((fs.map fun f => cntB 8 f.body).take i).sum) (fun _ _ => rfl) (fun H' s' => s' _ _ upd_same) ?_ ?_
  · rintro D i x acc H2 H3 nD hi s2' eD ra ⟨eH, k, ekv⟩
    subst eH
    obtain ⟨n, en, hk2, hv'⟩ := kvz_of ekv
    obtain ⟨d, ed, gd⟩ := dta_of gb hv'
    obtain ⟨f, ef, rfl⟩ := Option.map_eq_some_iff.mp (by rw [← List.getElem?_map]; exact ed)
    have t2 := (Y11.t.trans (tups_lock eb11 (.frz od (.dK (kvz (fs.map Fn91.name) bv))))).trans (tups_of s2')
    have fm := List.mem_of_getElem? ef
    have ec : (fs.map fun f => cntB 8 f.body)[i]? = some (cntB 8 f.body) := by rw [List.getElem?_map, ef]; rfl
    have es := sum_take_succ ec
    have el := sum_take_le (fs.map fun f => cntB 8 f.body) (i + 1)
    have o4' : (fs.map fun f => cntB 8 f.body).sum ≤ 100000 := o4
    have zl := line_big
    walk_at "wp"
    refine ⟨x, f.body, _, _, rfl, gd.keep t2, o3 f fm, by omega, by omega, fun H4 l2 us nl2 sc el2 hl2 hu2 => ⟨l2, rfl, ⟨_, .of el2⟩, ?_⟩⟩
    have nDl : l2 ≠ D := by rintro rfl; rw [eD] at nl2; cases nl2
    refine lc2In (walk_list (xs := us)) (fun j acc' H' => acc'.length = acc.length + j ∧ H' l2 = some (.lst us)) ⟨acc, s2'.trans sc, sc _ _ eD, rfl, el2⟩ (fun j acc' H5 s5 r5 => .of r5.2) ?_ ?_
    · rintro j y acc' H5 H6 hj s5 eD5 ⟨r5, el5⟩ ⟨eH, ey⟩
      subst eH
      walk_at "wp"
      refine ⟨acc', eD5, by omega, acc' ++ [y], same_at nD s5 _, upd_same, by simp; omega, by rw [upd_ne nDl]; exact el5⟩
    · rintro acc' H5 s5 eD5 ⟨r5, _⟩
      exact ⟨acc', s5, eD5, by omega⟩
  · rintro D acc H2 nD s2' eD ra
    have s12 := same_unlock eb11 s2'
    have nDb : D ≠ b := by rintro rfl; rw [upd_same] at nD; cases nD
    have eD' : (upd H2 b (.dK (kvz (fs.map Fn91.name) bv))) D = some (.lst acc) := by rw [upd_ne nDb]; exact eD
    refine ⟨s2' _ _ upd_same, ?_⟩
    have hp12 := s12 _ _ hp11
    generalize upd H2 b (.dK (kvz (fs.map Fn91.name) bv)) = H13 at s12 eD' hp12 ⊢
    refine fput hp12 c (cn "listed" (by decide)) (fs' := [("heads", .ref h), ("bodies", .ref b), ("rows", .ref r), ("tables", .ref t), ("listed", .ref D)]) rfl (by simp) ?_
    have Z14 := SX.put hp12 (.ins (He.ga K "Program") dx [("heads", .ref h), ("bodies", .ref b), ("rows", .ref r), ("tables", .ref t), ("listed", .ref D)])
    have X14 := (X11.trans (.of s12)).trans Z14
    have Y14 := (Y11.trans (.of s12)).trans Z14
    have nDp : D ≠ p := by rintro rfl; rw [eD'] at hp12; cases hp12
    refine q _ X14.x ⟨dx, h, b, r, t, D, none_back s1 nnh, none_backX X3n.x nb nnb, none_backX X5n.x nr' nr, upd_same, hv, bv, rv, acc, Z14.x _ _ nh (s12 _ _ eh11), gh.keep Y14.t, Z14.x _ _ nb (s12 _ _ eb11), gb.keep Y14.t, Z14.x _ _ nr' (s12 _ _ er11), hR.keep X14.t, Z14.x _ _ nDp eD', ?_⟩
    rw [ra, List.take_of_length_le (by rw [List.length_map]; omega)]
    rfl
end
end K91
set_option Elab.async false
set_option linter.all false
set_option maxRecDepth 100000
set_option maxHeartbeats 2000000
/-! list(d.values()). -/
namespace L2
open PySem PySem.Spec PyProof.Rows
theorem kv_vals {κ : Type} : ∀ {kvs : List (κ × V)} {vs : List (κ × Value)}, KV kvs vs → Vals (kvs.map Prod.snd) (vs.map Prod.snd)
  | _, _, .nil => .nil
  | _, _, .cons h t => .cons h.2 (kv_vals t)
def tListVals (te : TE) : TE := fun σ H Q => te σ H fun x H1 => ∃ (d : Addr) (kvs : List (Key × V)), x = .ref d ∧ Rd H1 d (.dK kvs) ∧ ∀ p, H1 p = none → Q (.ref p) (upd H1 p (.lst (kvs.map Prod.snd)))
section
variable {X : Cx} {e : Expr} {te : TE} {p apos cpos pos : Pos}
theorem pe_listVals (hc : X.calm = true) (he : PE X e te) (hg : Gl X "list") (hm : X.mg "list" = none) (hv : bootBuiltins "list" = some (.type "list")) (hbase : attributeBase e "values" X.env (eval e X.env) = eval e X.env := by rfl) (hline : (apos.endLine == cpos.line) = true := by rfl)
    (hs : starEach [.Call (.Attribute e "values" apos) [] [] cpos] X.env = (false, eval (.Call (.Attribute e "values" apos) [] [] cpos) X.env) :: starEach [] X.env := by rfl) :
    PE X (.Call (.Name "list" p) [.Call (.Attribute e "values" apos) [] [] cpos] [] pos) (tListVals te) := by
  refine ⟨fun pins s σ H Q I hq => ?_⟩
  refine wpAny_Call_Name_kw (ld_blt I hg hm hv ?_)
  refine PyProof.Rows.callWith_type1 ?_ hs rfl
  rw [hs]
  show wpAny _ _ (spliced ((false, eval (.Call (.Attribute e "values" apos) [] [] cpos) X.env) :: backTo pos (starEach [] X.env))) _ _ s
  refine Calls.spliced_cons ?_
  refine wpAny_Call_method (T := "dict") (id := "dict.values") hbase rfl hline F.plainAttrs_dict F.slot_dict_values F.type_dict_values (thn (he.run pins s σ H _ I hq) fun u s1 ⟨x, H1, I1, rx, d, kvs, ex, hd, q⟩ => ?_)
  subst ex
  obtain rfl : u = Value.ref d := rx
  obtain ⟨hz, hs0, vs, kv, hdo⟩ := dk_rd I1.hok hd
  obtain ⟨ep, hat⟩ := hdo.dictAt
  have lk : kvs.length = vs.length := Paired.length kv
  have I2 : Inv X pins σ H1 { s1 with heap := s1.heap.push { cls := .type "dict_values", data := .fields #[.ref d] } } := I1.kept (t' := s1.toks) fun b ob q => Heap.get?_push_of_some _ q
  refine ⟨hdo.typeIs, hdo.mapOf.noDict, ?_⟩
  show wpAny _ _ (callWith cpos (.builtin "dict.values") [.ref d] [] []) _ X.xe s1
  refine method_meetsIn F.slot_dict_values F.entry_dict_values rfl (PySem.evalArgs_none ⟨rfl, hdo.typeIs, F.args_dict_values_1 _, _, meets_dict_values (mixKind X.prog X.w) d hs0, ⟨vs, hdo⟩, ?_⟩)
  refine Calls.spliced_nil ?_
  refine PySem.W.kdl_call (PySem.W.kdl_values (knd := mixKind X.prog X.w) (r := s1.heap.objs.size) (d := d) (kvs := vs) (ep := ep)) (I1.ok.hd hc) ⟨⟨_, Heap.get?_push_size _ rfl, rfl, rfl⟩, hat.push _⟩ (by rw [← lk]; exact hz) fun h' tk acc c' hk hD hacc => ?_
  have ev := PySem.W.kdl_vals_eq acc.toList (by rw [Array.length_toList]; exact hacc.1) fun j v e => hacc.2 j v (by rw [← Array.getElem?_toList]; exact e)
  have hv : Vals (kvs.map Prod.snd) acc.toList := by rw [ev]; exact kv_vals kv
  refine ⟨.ref _, _, I2.laid (t' := tk) hk (Nat.le_refl _) (show ObjOk X.prog X.w _ _ _ (.lst (kvs.map Prod.snd)) from ⟨by rw [List.length_map]; exact hz, acc.toList, c', hv, by rw [Array.toArray_toList]; exact hD⟩), rfl, q _ (I2.hok.fresh (Nat.le_refl _))⟩
end
end L2
set_option Elab.async false
set_option linter.all false
set_option maxRecDepth 100000
set_option maxHeartbeats 8000000
namespace K91
open PySem PySem.Spec PyProof.Rows L2
local macro_rules | `(tactic| walk_at "wp") => `(tactic| try simp only [cxK, cxw, cxK', cxw', start1, start2, start3, start4, start5, tRet, tRetN, tAsg, gName, gTup, gCons, gNil, gSub, tDrop, tNext, tIfS, tIf, tVar, tC, tAndV, tOrV, tNotV, tAnd, tOr, tNot, tTest, tB, tCB, tCons, tNil, tOp, tUn, rI0, rI, rU, rEq, rNe, rIn, tChain, tFld, sFld, tSl, tPart, tNoPart, tTup, tLst, tCallR, tMethR, tMethO, tBM, tBM0, tM0, tM1, tDGet, tDIn, tDNotIn, tDNewK, tCmp, t2I, tIsN, tNotN, tYes, tLc_eq, tFor_eq, tLenSetN, iItems, iVals, iKeys, iRng1, tLock, tLockE, tCallKw, tMakeKw, tMethKw, StX.tMakeR, tDc_eq, tLc2_eq, tListVals, LiI.tListItems, LiI.rItemsL, RZ.iZipA, iStr, iTup, iList, iEnum, iEnumT, tDGet1, tDGet2, tDisp, tPairs, wipe, List.map_cons, List.map_nil,
  List.length_cons, List.length_nil, Nat.reduceAdd, Nat.reduceSub, List.replicate_succ, List.replicate_zero, if_true, if_false, Bool.not_true, Bool.not_false, Bool.false_eq_true, reduceIte,
  List.set_cons_zero, List.set_cons_succ, List.getElem?_cons_zero, List.getElem?_cons_succ, Option.some.injEq, exists_eq_left', exists_eq_left, V.int.injEq, V.str.injEq, V.bl.injEq, V.ref.injEq, V.ty.injEq, List.cons.injEq, and_true, true_and, and_assoc, exists_and_left, List.nil_append, List.cons_append, List.append_nil])
local macro_rules | `(tactic| walk_at "st") => `(tactic| (refine sq ?_; walk_at "wp"))
section
variable {P : Program} {w : World} {K : PySem.W.Frag} {mg : Str → Option Value} {base : Heap}
theorem ProgAt.same {H H' : Hp} {p : Addr} {fs : List Fn91} {bs : List Box91} (h : ProgAt K H p fs bs) (s : Same H H') : ProgAt K H' p fs bs := by
  obtain ⟨dx, h, b, r, t, l, hp, hv, bv, rv, us, e1, g1, e2, g2, e3, g3, e4, e5⟩ := h
  exact ⟨dx, h, b, r, t, l, s _ _ hp, hv, bv, rv, us, s _ _ e1, g1.keep (tups_of s), s _ _ e2, g2.keep (tups_of s), s _ _ e3, g3.keep (tups_of s), s _ _ e4, e5⟩
theorem kvz_snd : ∀ {ns : List Str} {vs : List V}, vs.length = ns.length → (kvz ns vs).map Prod.snd = vs
  | [], [], _ => rfl
  | [], _ :: _, h => by cases h
  | n :: ns, [], h => by cases h
  | n :: ns, v :: vs, h => by
    have ih := kvz_snd (ns := ns) (vs := vs) (by simpa using h)
    unfold kvz at ih ⊢
    simp only [List.map_cons, List.zip_cons_cons, ih]
/-- a new list of texts -/
def StrsL (H : Hp) (l : Addr) (xs : List Str) : Prop := H l = some (.lst (xs.map V.str))
def spFunctions (K : PySem.W.Frag) : Sp := fun vs H Q _ => ∃ p fs bs, vs = [.ref p] ∧ ProgAt K H p fs bs ∧ ∀ H' l, Same H H' → H l = none → StrsL H' l (fs.map Fn91.name) → Q (.ref l) H'
theorem ok_Program_functions (T : Top K mg w)  : FnR P w K mg base CX0 1 (He.ma K (He.ga K "Program") "functions") (spFunctions K) := by
  obtain ⟨fd, F⟩ := T.def_ d_Program_functions (List.mem_of_getElem? (i := 19) rfl)
  refine mkR F sc_Program_functions (fun _ _ _ _ _ _ us hl => match us, hl with | [_], _ => rfl) (fun vs H Q E h => ?_) (fun cdv A outer s H vs Q E hr h => ?_)
  · obtain ⟨p, fs, bs, rfl, _⟩ := h; rfl
  obtain ⟨p, fs, bs, rfl, hp, q⟩ := h
  refine ⟨_, pss_one (ps_ret (pe_callTy (call_listD rfl) (by rfl) (T.free "list" (by decide +kernel)) (by decide +kernel) (pa_cons (pe_fld (pv 0) rfl) pa_nil))), ?_⟩
  obtain ⟨dx, h, b, r, t, l, hp, hv, bv, rv, us, e1, g1, e2, g2, e3, g3, e4, e5⟩ := hp
  have c := (T.cls "Program" (by decide +kernel)).1
  have cn (f : Str) (hf : f ∈ FIELDS91) : NoAttr K (He.ga K "Program") f := T.noat ("Program", f) (fields91 hf)
  have lb := dta_len g2
  walk_at "wp"
  refine fldw hp c (cn "bodies" (by decide)) rfl ⟨b, rfl, _, .inl e2, fun l nl => ?_⟩
  exact q _ l (same_new nl _) nl (by rw [StrsL, upd_same, kvz_keys (by rw [lb, List.length_map, List.length_map])])
def spCheckFn (K : PySem.W.Frag) : Sp := fun vs H Q _ => ∃ p fs bs f, vs = [.ref p, .str f] ∧ ProgAt K H p fs bs ∧ f ∈ fs.map Fn91.name ∧ (fs.map Fn91.name).Nodup ∧ ∀ H', Same H H' → Q .non H'
theorem ok_Program_check_function (T : Top K mg w)  : FnR P w K mg base CX0 1 (He.ma K (He.ga K "Program") "check_function") (spCheckFn K) := by
  obtain ⟨fd, F⟩ := T.def_ d_Program_check_function (List.mem_of_getElem? (i := 20) rfl)
  refine mkR F sc_Program_check_function (fun _ _ _ _ _ _ us hl => match us, hl with | [_, _], _ => rfl) (fun vs H Q E h => ?_) (fun cdv A outer s H vs Q E hr h => ?_)
  · obtain ⟨p, fs, bs, f, rfl, _⟩ := h; rfl
  obtain ⟨p, fs, bs, f, rfl, hp, hf, nd, q⟩ := h
  refine ⟨_, pss_one (ps_if (PW.pt (pw_or (pt_not (pt_val (pe_callB (r := rIsi K) call_isi (by rfl) (T.free "isinstance" (by decide +kernel)) (by decide +kernel) (pa_cons (pv 1) (pa_cons (pe_bltn (v := .ty "str") (u := .type "str") (by rfl) (T.free "str" (by decide +kernel)) (by decide +kernel) rfl) pa_nil))))) (pw_or1 (pt_cmp (pc_dnotin (hu_of hr) (pv 1) (pe_fld (pv 0) rfl)))))) (pss_one ps_never) pss_nil), ?_⟩
  obtain ⟨dx, h, b, r, t, l, hp, hv, bv, rv, us, e1, g1, e2, g2, e3, g3, e4, e5⟩ := hp
  have c := (T.cls "Program" (by decide +kernel)).1
  have cn (f : Str) (hf : f ∈ FIELDS91) : NoAttr K (He.ga K "Program") f := T.noat ("Program", f) (fields91 hf)
  have lb := dta_len g2
  rw [List.length_map] at lb
  obtain ⟨i, ei⟩ := List.mem_iff_getElem?.mp hf
  have li := (List.getElem?_eq_some_iff.mp ei).1
  rw [List.length_map] at li
  obtain ⟨v, ev⟩ : ∃ v, bv[i]? = some v := ⟨bv[i]'(by omega), List.getElem?_eq_getElem (by omega)⟩
  walk_at "wp"
  refine isiV (t := "str") (b := true) (.base (.str _)) (by decide +kernel) ⟨_, rfl, iteFb rfl (fldw hp c (cn "bodies" (by decide)) rfl ⟨b, rfl, _, .k (k := .inr f) e2, iteFb (by rw [kvz_val nd ei ev]; rfl) (q H (.refl H))⟩)⟩
def spParametersM (K : PySem.W.Frag) : Sp := fun vs H Q _ => ∃ p fs bs f, vs = [.ref p, .str f.name] ∧ ProgAt K H p fs bs ∧ f ∈ fs ∧ (fs.map Fn91.name).Nodup ∧ ∀ H' l, Same H H' → H l = none → StrsL H' l f.heads → Q (.ref l) H'
theorem ok_Program_parameters (T : Top K mg w)  : FnR P w K mg base CX0 2 (He.ma K (He.ga K "Program") "parameters") (spParametersM K) := by
  obtain ⟨fd, F⟩ := T.def_ d_Program_parameters (List.mem_of_getElem? (i := 21) rfl)
  refine mkR F sc_Program_parameters (fun _ _ _ _ _ _ us hl => match us, hl with | [_, _], _ => rfl) (fun vs H Q E h => ?_) (fun cdv A outer s H vs Q E hr h => ?_)
  · obtain ⟨p, fs, bs, f, rfl, _⟩ := h; rfl
  obtain ⟨p, fs, bs, f, rfl, hp, hf, nd, q⟩ := h
  have G_Program_check_function := ok_Program_check_function (P := P) (w := w) (base := base) T
  refine ⟨_, pss_cons (ps_expr (pe_methR (pv 0) (T.cls "Program" (by decide +kernel)).1 (T.meth ("Program", "check_function") (by decide +kernel)) G_Program_check_function (hr.mono (by omega)) pass0 (pa_cons (pv 1) pa_nil)))
    (pss_one (ps_ret (pe_callTy call_list_of (by rfl) (T.free "list" (by decide +kernel)) (by decide +kernel) (pa_cons (pe_dget (hu_of hr) (pe_fld (pv 0) rfl) (pv 1) (fun _ _ => rfl)) pa_nil)))), ?_⟩
  have hp0 := hp
  obtain ⟨dx, h, b, r, t, l, hp, hv, bv, rv, us, e1, g1, e2, g2, e3, g3, e4, e5⟩ := hp
  have c := (T.cls "Program" (by decide +kernel)).1
  have cn (f : Str) (hf : f ∈ FIELDS91) : NoAttr K (He.ga K "Program") f := T.noat ("Program", f) (fields91 hf)
  obtain ⟨i, ei⟩ := List.mem_iff_getElem?.mp hf
  obtain ⟨v, ev, gv⟩ := dta_get g1 (i := i) (d := .tuple (f.heads.map .str)) (by rw [List.getElem?_map, ei]; rfl)
  obtain ⟨a, xs, rfl, hT, hX⟩ := gv.tupI
  have ex := dta_strs hX
  walk_at "st"
  refine ⟨dx, _, hp, rfl, p, fs, bs, f.name, by simp, hp0, List.mem_map_of_mem hf, nd, fun H1 s1 => ?_⟩
  walk_at "wp"
  have ev2 := kvz_val (i := i) (n := f.name) nd (by rw [List.getElem?_map, ei]; rfl) ev
  refine fldw (s1 _ _ hp) c (cn "heads" (by decide)) rfl ⟨h, rfl, _, by rw [← ev2]; exact .k (k := .inr f.name) (s1 _ _ e1), a, rfl, _, .inr ((tups_of s1).sqT hT), fun l nl => ?_⟩
  exact q _ l (s1.trans (same_new nl _)) (by cases e : H l with | none => rfl | some u => rw [s1 _ _ e] at nl; cases nl) (by rw [StrsL, upd_same, ex])
def spBodyM (K : PySem.W.Frag) : Sp := fun vs H Q _ => ∃ p fs bs f, vs = [.ref p, .str f.name] ∧ ProgAt K H p fs bs ∧ f ∈ fs ∧ (fs.map Fn91.name).Nodup ∧ ∀ H' v, Same H H' → Dt K H' v f.body → Q v H'
theorem ok_Program_body (T : Top K mg w)  : FnR P w K mg base CX0 2 (He.ma K (He.ga K "Program") "body") (spBodyM K) := by
  obtain ⟨fd, F⟩ := T.def_ d_Program_body (List.mem_of_getElem? (i := 22) rfl)
  refine mkR F sc_Program_body (fun _ _ _ _ _ _ us hl => match us, hl with | [_, _], _ => rfl) (fun vs H Q E h => ?_) (fun cdv A outer s H vs Q E hr h => ?_)
  · obtain ⟨p, fs, bs, f, rfl, _⟩ := h; rfl
  obtain ⟨p, fs, bs, f, rfl, hp, hf, nd, q⟩ := h
  have G_Program_check_function := ok_Program_check_function (P := P) (w := w) (base := base) T
  refine ⟨_, pss_cons (ps_expr (pe_methR (pv 0) (T.cls "Program" (by decide +kernel)).1 (T.meth ("Program", "check_function") (by decide +kernel)) G_Program_check_function (hr.mono (by omega)) pass0 (pa_cons (pv 1) pa_nil)))
    (pss_one (ps_ret (pe_dget (hu_of hr) (pe_fld (pv 0) rfl) (pv 1) (fun _ _ => rfl)))), ?_⟩
  have hp0 := hp
  obtain ⟨dx, h, b, r, t, l, hp, hv, bv, rv, us, e1, g1, e2, g2, e3, g3, e4, e5⟩ := hp
  have c := (T.cls "Program" (by decide +kernel)).1
  have cn (f : Str) (hf : f ∈ FIELDS91) : NoAttr K (He.ga K "Program") f := T.noat ("Program", f) (fields91 hf)
  obtain ⟨i, ei⟩ := List.mem_iff_getElem?.mp hf
  obtain ⟨v, ev, gv⟩ := dta_get g2 (i := i) (d := f.body) (by rw [List.getElem?_map, ei]; rfl)
  walk_at "st"
  refine ⟨dx, _, hp, rfl, p, fs, bs, f.name, by simp, hp0, List.mem_map_of_mem hf, nd, fun H1 s1 => ?_⟩
  walk_at "wp"
  have ev2 := kvz_val (i := i) (n := f.name) nd (by rw [List.getElem?_map, ei]; rfl) ev
  refine fldw (s1 _ _ hp) c (cn "bodies" (by decide)) rfl ⟨b, rfl, v, by rw [← ev2]; exact .k (k := .inr f.name) (s1 _ _ e2), q H1 v s1 (gv.keep (tups_of s1))⟩
def spBoxesM (K : PySem.W.Frag) : Sp := fun vs H Q _ => ∃ p fs bs, vs = [.ref p] ∧ ProgAt K H p fs bs ∧ ∀ H' l, Same H H' → H l = none → RowsAt K H' l bs → Q (.ref l) H'
theorem ok_Program_boxes (T : Top K mg w)  : FnR P w K mg base CX0 1 (He.ma K (He.ga K "Program") "boxes") (spBoxesM K) := by
  obtain ⟨fd, F⟩ := T.def_ d_Program_boxes (List.mem_of_getElem? (i := 23) rfl)
  refine mkR F sc_Program_boxes (fun _ _ _ _ _ _ us hl => match us, hl with | [_], _ => rfl) (fun vs H Q E h => ?_) (fun cdv A outer s H vs Q E hr h => ?_)
  · obtain ⟨p, fs, bs, rfl, _⟩ := h; rfl
  obtain ⟨p, fs, bs, rfl, hp, q⟩ := h
  refine ⟨_, pss_one (ps_ret (pe_listVals rfl (pe_fld (pv 0) rfl) (by rfl) (T.free "list" (by decide +kernel)) rfl)), ?_⟩
  obtain ⟨dx, h, b, r, t, l, hp, hv, bv, rv, us, e1, g1, e2, g2, e3, g3, e4, e5⟩ := hp
  have c := (T.cls "Program" (by decide +kernel)).1
  have cn (f : Str) (hf : f ∈ FIELDS91) : NoAttr K (He.ga K "Program") f := T.noat ("Program", f) (fields91 hf)
  have lr := dta_len g3
  rw [List.length_map] at lr
  walk_at "wp"
  refine fldw hp c (cn "rows" (by decide)) rfl ⟨r, rfl, _, .inl e3, fun l nl => ?_⟩
  exact q _ l (same_new nl _) nl ⟨rv, by rw [upd_same, kvz_snd (by rw [List.length_map]; omega)], g3.keep (tups_of (same_new nl _))⟩
def spLenM (K : PySem.W.Frag) : Sp := fun vs H Q _ => ∃ p fs bs, vs = [.ref p] ∧ ProgAt K H p fs bs ∧ Q (.int (cntAll fs : Nat)) H
theorem ok_Program___len__ (T : Top K mg w)  : FnR P w K mg base CX0 1 (He.ma K (He.ga K "Program") "__len__") (spLenM K) := by
  obtain ⟨fd, F⟩ := T.def_ d_Program___len__ (List.mem_of_getElem? (i := 25) rfl)
  refine mkR F sc_Program___len__ (fun _ _ _ _ _ _ us hl => match us, hl with | [_], _ => rfl) (fun vs H Q E h => ?_) (fun cdv A outer s H vs Q E hr h => ?_)
  · obtain ⟨p, fs, bs, rfl, _⟩ := h; rfl
  obtain ⟨p, fs, bs, rfl, hp, q⟩ := h
  refine ⟨_, pss_one (ps_ret (pe_callB (r := fun xs H Q => ∃ x n, xs = [x] ∧ LenV K x H n ∧ Q (.int n) H) call_len (by rfl) (T.free "len" (by decide +kernel)) (by decide +kernel) (pa_cons (pe_fld (pv 0) rfl) pa_nil))), ?_⟩
  obtain ⟨dx, h, b, r, t, l, hp, hv, bv, rv, us, e1, g1, e2, g2, e3, g3, e4, e5⟩ := hp
  have c := (T.cls "Program" (by decide +kernel)).1
  have cn (f : Str) (hf : f ∈ FIELDS91) : NoAttr K (He.ga K "Program") f := T.noat ("Program", f) (fields91 hf)
  walk_at "wp"
  refine fldw hp c (cn "listed" (by decide)) rfl ⟨_, .inl ⟨us, .of e4, rfl⟩, by rw [e5]; exact q⟩
end
end K91
set_option Elab.async false
set_option linter.all false
set_option maxRecDepth 100000
set_option maxHeartbeats 4000000
namespace L2
open PySem PySem.Spec PyProof.Rows
section
variable {X : Cx}
def rMulS : V → V → Hp → VK → Prop := fun x y H Q => ∃ (z : Str) (n : Nat), x = .str z ∧ y = .int (n : Nat) ∧ z.length ≤ 1000 ∧ n ≤ 1000 ∧ Q (.str (Txt.mul z (n : Int))) H
theorem mulOk_small {z : Str} {n : Nat} (h1 : z.length ≤ 1000) (h2 : n ≤ 1000) : MulOk z (n : Int) := by
  refine ⟨?_, fun h _ => ?_, fun h _ => ?_⟩
  · have a : ¬ ((n : Int) < -(2 ^ 63 : Int)) := by omega
    have b : ¬ ((n : Int) ≥ 2 ^ 63) := by omega
    rw [decide_eq_false a, decide_eq_false b]
    rfl
  · have e : (1000 : Int) ≤ (2 ^ 63 - 1) / (n : Int) := by
      rw [Int.le_ediv_iff_mul_le (by omega)]
      omega
    omega
  · unfold Builtin.Str.tooLong
    have : z.length * n ≤ 1000 * 1000 := Nat.mul_le_mul h1 h2
    have e : ((n : Int).toNat) = n := rfl
    rw [e]
    have zl : 1000000 < sizeLine := by decide
    first
    | exact decide_eq_false (by omega)
    | simp; omega
theorem call_strU : CallR X (.type "str") (fun xs H Q => (∃ a, xs = [.str a] ∧ Q (.str a) H) ∨ ∃ i, xs = [.int i] ∧ i.natAbs.log2 < 1920 ∧ Q (.str (toString i)) H) := by
  intro pins s σ H xs us Q I r h
  rcases h with h | h
  · exact SkE.call_str_str pins s σ H xs us Q I r h
  · exact call_str_int pins s σ H xs us Q I r h
theorem op_mul_str : OpR X (binaryOp .Mult) rMulS := by
  intro pins s σ H x y v u Q I rx ry h
  obtain ⟨z, n, rfl, rfl, h1, h2, q⟩ := h
  obtain ⟨t, rfl⟩ := rx
  obtain ⟨t', rfl⟩ := ry
  exact SB.mul (mulOk_small h1 h2) fun t' k => ⟨.str _, H, I.tok _, ⟨_, rfl⟩, q⟩
end
end L2
namespace K91
open PySem PySem.Spec PyProof.Rows L2
/-! ### the texts of a program -/
/-- data that has a text -/
def txB : Nat → PyData → Bool
  | _, .int i => decide (i.natAbs ≤ 1000000000000000000000000000000000000000000000000000000000000)
  | _, .str x => decide (x.length ≤ 8)
  | n + 1, .tuple [.str o, l, r] => decide (o.length ≤ 8) && txB n l && txB n r
  | _, _ => false
def exprT : Nat → PyData → Str
  | _, .int i => toString i
  | _, .str x => x
  | n + 1, .tuple [.str o, l, r] => Str.empty ++ "(" ++ o ++ " " ++ exprT n l ++ " " ++ exprT n r ++ ")"
  | _, _ => Str.empty
def partT (k : Str) (d : PyData) : List Str := if k = "args" then (match d with | .tuple es => es.map (exprT 6) | _ => []) else if k = "body" then [] else [exprT 6 d]
def partTx (k : Str) (d : PyData) : Prop := (k = "args" → ∃ es, d = .tuple es ∧ es.length ≤ 5 ∧ ∀ e ∈ es, txB 6 e = true) ∧ (k ≠ "args" → k ≠ "body" → txB 6 d = true)
def wordsT (wd : Str) (ks : List Str) (ps : List PyData) : List Str := if wd = "try" then ["try"] else wd :: (ks.zip ps).flatMap fun q => partT q.1 q.2
def partsTx (ks : List Str) (ps : List PyData) : Prop := ps.length = ks.length ∧ ∀ q ∈ ks.zip ps, partTx q.1 q.2
def midT (wd : Str) (ps : List PyData) : List Str := if wd = "if" then ["else"] else ["handle", match ps[1]? with | some (PyData.str x) => x | _ => Str.empty]
def indT (depth : Nat) (ws : List Str) : Str := Txt.mul "  " (depth : Int) ++ Txt.join " " ws
def stmtT (B : PyData → List Str) (dp : Nat) : PyData → List Str
  | .tuple (.str wd :: ps) => indT dp (wordsT wd ((shapeOf wd).getD []) ps) :: ((bodiesL ((shapeOf wd).getD []) ps).zipIdx.flatMap fun q => (if q.2 = 1 then [indT dp (midT wd ps)] else []) ++ B q.1)
  | _ => []
def bodyT : Nat → Nat → PyData → List Str
  | n + 1, dp, .tuple ds => ds.flatMap (stmtT (bodyT n (dp + 1)) dp)
  | _, _, _ => []
def stmtTx (B : PyData → Prop) (s : PyData) : Prop := ∃ wd ps ks, s = .tuple (.str wd :: ps) ∧ shapeOf wd = some ks ∧ partsTx ks ps ∧ (wd = "try" → ∃ a x c, ps = [a, .str x, c] ∧ x.length ≤ 8) ∧ ∀ b ∈ bodiesL ks ps, B b
def bodyTx : Nat → PyData → Prop
  | 0, _ => False
  | n + 1, d => ∃ ds, d = .tuple ds ∧ ds.length ≤ 20 ∧ ∀ s ∈ ds, stmtTx (bodyTx n) s
/-! ### how long -/
theorem str_of_len (x : String) : (x : Str).length = x.length := by
  show (Str.ofString x).length = _
  rw [Str.ofString_eq_toList]
  simp [Str.length, String.length_toList]
theorem txB_tup {n : Nat} {ds : List PyData} (h : txB n (.tuple ds) = true) : ∃ m o l r, n = m + 1 ∧ ds = [.str o, l, r] ∧ o.length ≤ 8 ∧ txB m l = true ∧ txB m r = true := by
  unfold txB at h
  split at h
  · rename_i e; cases e
  · rename_i e; cases e
  · rename_i m o l r e
    cases e
    rw [Bool.and_eq_true, Bool.and_eq_true, decide_eq_true_eq] at h
    exact ⟨m, o, l, r, rfl, rfl, h.1.1, h.1.2, h.2⟩
  · cases h
theorem txB_kind {n : Nat} {d : PyData} (h : txB n d = true) : (∃ i, d = .int i ∧ i.natAbs ≤ 1000000000000000000000000000000000000000000000000000000000000) ∨ (∃ x, d = .str x ∧ x.length ≤ 8) ∨ ∃ ds, d = .tuple ds := by
  unfold txB at h
  split at h
  · exact .inl ⟨_, rfl, of_decide_eq_true h⟩
  · exact .inr (.inl ⟨_, rfl, of_decide_eq_true h⟩)
  · exact .inr (.inr ⟨_, rfl⟩)
  · cases h
theorem digits_le (n : Nat) (h : n ≤ 1000000000000000000000000000000000000000000000000000000000000) : (Nat.toDigits 10 n).length ≤ 61 := by
  exact (Nat.length_toDigits_le_iff (b := 10) (n := n) (k := 61) (by decide) (by decide)).mpr (Nat.lt_of_le_of_lt h (by decide))
theorem int_len (i : Int) (h : i.natAbs ≤ 1000000000000000000000000000000000000000000000000000000000000) : ((toString i : String) : Str).length ≤ 62 := by
  rw [str_of_len]
  cases i with
  | ofNat m =>
    have e : toString (Int.ofNat m) = m.repr := rfl
    rw [e, Nat.repr, String.length_ofList]
    have := digits_le m h
    omega
  | negSucc m =>
    have e : toString (Int.negSucc m) = "-" ++ (m + 1).repr := rfl
    have e3 : (m + 1).repr = String.ofList (Nat.toDigits 10 (m + 1)) := rfl
    have := digits_le (m + 1) h
    have e2 : "-".length = 1 := rfl
    rw [e, String.length_append, e2, e3, String.length_ofList]
    omega
theorem int_log (i : Int) (h : i.natAbs ≤ 1000000000000000000000000000000000000000000000000000000000000) : i.natAbs.log2 < 1920 := by
  by_cases z : i.natAbs = 0
  · rw [z]; decide
  · rw [Nat.log2_lt z]
    exact Nat.lt_of_le_of_lt h (by decide +kernel)
theorem exprT_int (n : Nat) (i : Int) : exprT n (.int i) = ((toString i : String) : Str) := by cases n <;> rfl
theorem exprT_str (n : Nat) (x : Str) : exprT n (.str x) = x := by cases n <;> rfl
theorem exprT_len (n : Nat) : ∀ d, txB n d = true → (exprT n d).length + 12 ≤ 75 * 2 ^ n := by
  induction n with
  | zero =>
    intro d h
    rcases txB_kind h with ⟨i, rfl, hi⟩ | ⟨x, rfl, hx⟩ | ⟨ds, rfl⟩
    · have := int_len i hi
      rw [exprT_int]
      omega
    · rw [exprT_str]
      omega
    · obtain ⟨m, _, _, _, e, _⟩ := txB_tup h
      cases e
  | succ n ih =>
    intro d h
    have p := Nat.one_le_two_pow (n := n + 1)
    rcases txB_kind h with ⟨i, rfl, hi⟩ | ⟨x, rfl, hx⟩ | ⟨ds, rfl⟩
    · have := int_len i hi
      rw [exprT_int]
      omega
    · rw [exprT_str]
      omega
    · obtain ⟨m, o, l, r, e, rfl, h1, h2, h3⟩ := txB_tup h
      cases e
      have i1 := ih l h2
      have i2 := ih r h3
      show (Str.empty ++ "(" ++ o ++ " " ++ exprT n l ++ " " ++ exprT n r ++ ")").length + 12 ≤ _
      rw [Str.length_append, Str.length_append, Str.length_append, Str.length_append, Str.length_append, Str.length_append, Str.length_append]
      have e1 : (Str.empty).length = 0 := rfl
      have e2 : (("(" : String) : Str).length = 1 := rfl
      have e3 : ((" " : String) : Str).length = 1 := rfl
      have e4 : ((")" : String) : Str).length = 1 := rfl
      rw [e1, e2, e3, e4, Nat.pow_succ]
      omega
end K91
set_option Elab.async false
set_option linter.all false
set_option maxRecDepth 100000
set_option maxHeartbeats 8000000
namespace K91
open PySem PySem.Spec PyProof.Rows L2
local macro_rules | `(tactic| walk_at "wp") => `(tactic| try simp only [cxK, cxw, cxK', cxw', start1, start2, start3, start4, start5, tRet, tRetN, tAsg, gName, gTup, gCons, gNil, gSub, tDrop, tNext, tIfS, tIf, tVar, tC, tAndV, tOrV, tNotV, tAnd, tOr, tNot, tTest, tB, tCB, tCons, tNil, tOp, tUn, rI0, rI, rU, rEq, rNe, rIn, tChain, tFld, sFld, tSl, tPart, tNoPart, tTup, tLst, tCallR, tMethR, tMethO, tBM, tBM0, tM0, tM1, tDGet, tDIn, tDNotIn, tDNewK, tCmp, t2I, tIsN, tNotN, tYes, tLc_eq, tFor_eq, tLenSetN, iItems, iVals, iKeys, iRng1, tLock, tLockE, tCallKw, tMakeKw, tMethKw, StX.tMakeR, tDc_eq, tLc2_eq, tListVals, LiI.tListItems, LiI.rItemsL, RZ.iZipA, iStr, iTup, iList, iEnum, iEnumT, tDGet1, tDGet2, tDisp, tPairs, wipe, List.map_cons, List.map_nil,
  List.length_cons, List.length_nil, Nat.reduceAdd, Nat.reduceSub, List.replicate_succ, List.replicate_zero, if_true, if_false, Bool.not_true, Bool.not_false, Bool.false_eq_true, reduceIte,
  List.set_cons_zero, List.set_cons_succ, List.getElem?_cons_zero, List.getElem?_cons_succ, Option.some.injEq, exists_eq_left', exists_eq_left, V.int.injEq, V.str.injEq, V.bl.injEq, V.ref.injEq, V.ty.injEq, List.cons.injEq, and_true, true_and, and_assoc, exists_and_left, List.nil_append, List.cons_append, List.append_nil])
local macro_rules | `(tactic| walk_at "st") => `(tactic| (refine sq ?_; walk_at "wp"))
section
variable {P : Program} {w : World} {K : PySem.W.Frag} {mg : Str → Option Value} {base : Heap}
def spExprT (K : PySem.W.Frag) (n : Nat) : Sp := fun vs H Q _ => ∃ v d, vs = [v] ∧ Dt K H v d ∧ txB n d = true ∧ n ≤ 6 ∧ ∀ H', Same H H' → Q (.str (exprT n d)) H'
theorem st_expression_text (T : Top K mg w) {n : Nat} (G_expression_text : FnR P w K mg base CX0 (n + 1) (He.ga K "expression_text") (spExprT K n)) : FnR P w K mg base CX0 (n + 1 + 1) (He.ga K "expression_text") (spExprT K (n + 1)) := by
  obtain ⟨fd, F⟩ := T.def_ d_expression_text (List.mem_of_getElem? (i := 26) rfl)
  refine mkR F sc_expression_text (fun _ _ _ _ _ _ us hl => match us, hl with | [_], _ => rfl) (fun vs H Q E h => ?_) (fun cdv A outer s H vs Q E hr h => ?_)
  · obtain ⟨v, d, rfl, _⟩ := h; rfl
  obtain ⟨v, d, rfl, hd, ht, hn, q⟩ := h
  refine ⟨_, pss_cons (ps_if (pt_val (pe_callB (r := rIsi K) call_isi (by rfl) (T.free "isinstance" (by decide +kernel)) (by decide +kernel) (pa_cons (pv 0) (pa_cons (pe_bltn (v := .ty "tuple") (u := .type "tuple") (by rfl) (T.free "tuple" (by decide +kernel)) (by decide +kernel) rfl) pa_nil)))) (pss_cons (ps_asg (pv 0) (pg_tup (n := 3) rfl (pgs_cons (pg_name (i := 1) sc_expression_text.nd rfl (by first | exact Or.inl rfl | exact Or.inr rfl)) (pgs_cons (pg_name (i := 2) sc_expression_text.nd rfl (by first | exact Or.inl rfl | exact Or.inr rfl)) (pgs_cons (pg_name (i := 3) sc_expression_text.nd rfl (by first | exact Or.inl rfl | exact Or.inr rfl)) pgs_nil)))))
    (pss_one (ps_ret (pe_joined (.cons pe_str (.cons (pe_fmt (pv 1)) (.cons pe_str (.cons (pe_fmt (pcall G_expression_text hr (T.glo "expression_text" (by decide +kernel)) (pa_cons (pv 2) pa_nil))) (.cons pe_str (.cons (pe_fmt (pcall G_expression_text hr (T.glo "expression_text" (by decide +kernel)) (pa_cons (pv 3) pa_nil))) (.cons pe_str .nil))))))))))) pss_nil)
    (pss_one (ps_ret (pe_callTy call_strU (by rfl) (T.free "str" (by decide +kernel)) (by decide +kernel) (pa_cons (pv 0) pa_nil)))), ?_⟩
  have zl := line_big
  walk_at "st"
  refine isi_ask hd.dp (kit_tuple _) ⟨_, rfl, ?_⟩
  have hsz := exprT_len (n + 1) d ht
  have hp2 : 2 ^ (n + 1) ≤ 2 ^ 6 := Nat.pow_le_pow_right (by decide) hn
  rcases txB_kind ht with ⟨i, rfl, hi⟩ | ⟨x, rfl, hx⟩ | ⟨ds, rfl⟩
  · obtain rfl := hd.intI
    have q := q H (.refl H)
    rw [exprT_int] at q
    exact iteFb (by rw [isi_tupleE]; rfl) (.inr ⟨i, rfl, int_log i hi, q⟩)
  · obtain ⟨rfl, _⟩ := hd.strI
    have q := q H (.refl H)
    rw [exprT_str] at q
    exact iteFb (by rw [isi_tupleE]; rfl) (.inl ⟨x, rfl, q⟩)
  obtain ⟨m, o, l, r, e, rfl, h1, h2, h3⟩ := txB_tup ht
  cases e
  obtain ⟨a, xs, rfl, hT, hX⟩ := hd.tupI
  obtain ⟨v0, _, rfl, g0, hX⟩ := hX.consI
  obtain ⟨v1, _, rfl, g1, hX⟩ := hX.consI
  obtain ⟨v2, _, rfl, g2, hX⟩ := hX.consI
  obtain rfl := hX.nilI
  obtain ⟨rfl, z0⟩ := g0.strI
  refine iteTb (by rw [isi_tupleE]; rfl) ?_
  walk_at "st"
  refine ⟨_, hT, rfl, _, _, rfl, _, _, rfl, _, _, rfl, rfl, ?_⟩
  simp only [tJs, tFmt]
  walk_at "wp"
  have e1 : (Str.empty).length = 0 := rfl
  have e2 : (("(" : String) : Str).length = 1 := rfl
  have e3 : ((" " : String) : Str).length = 1 := rfl
  have e4 : ((")" : String) : Str).length = 1 := rfl
  have il := exprT_len n l h2
  have ir := exprT_len n r h3
  rw [Nat.pow_succ] at hp2
  have z : ∀ k : Nat, k ≤ 1000000 → k ≤ sizeLine := fun k h => by omega
  refine ⟨z _ (by simp only [Str.length_append, e1, e2, e3, e4]; omega), .inl ⟨z _ (by omega), z _ (by simp only [Str.length_append, e1, e2, e3, e4]; omega), z _ (by simp only [Str.length_append, e1, e2, e3, e4]; omega), v1, l, rfl, g1, h2, by omega, fun H1 s1 => .inl ⟨_, rfl, z _ (by omega), z _ (by simp only [Str.length_append, e1, e2, e3, e4]; omega), z _ (by simp only [Str.length_append, e1, e2, e3, e4]; omega), v2, r, rfl, g2.keep (tups_of s1), h3, by omega, fun H2 s2 => .inl ⟨_, rfl, z _ (by omega), z _ (by simp only [Str.length_append, e1, e2, e3, e4]; omega), z _ (by simp only [Str.length_append, e1, e2, e3, e4]; omega), q H2 (s1.trans s2)⟩⟩⟩⟩
/-- leaves only -/
theorem z_expression_text (T : Top K mg w) (G_expression_text : FnR P w K mg base CX0 0 (He.ga K "expression_text") (fun _ _ _ _ => False)) : FnR P w K mg base CX0 1 (He.ga K "expression_text") (spExprT K 0) := by
  obtain ⟨fd, F⟩ := T.def_ d_expression_text (List.mem_of_getElem? (i := 26) rfl)
  refine mkR F sc_expression_text (fun _ _ _ _ _ _ us hl => match us, hl with | [_], _ => rfl) (fun vs H Q E h => ?_) (fun cdv A outer s H vs Q E hr h => ?_)
  · obtain ⟨v, d, rfl, _⟩ := h; rfl
  obtain ⟨v, d, rfl, hd, ht, hn, q⟩ := h
  refine ⟨_, pss_cons (ps_if (pt_val (pe_callB (r := rIsi K) call_isi (by rfl) (T.free "isinstance" (by decide +kernel)) (by decide +kernel) (pa_cons (pv 0) (pa_cons (pe_bltn (v := .ty "tuple") (u := .type "tuple") (by rfl) (T.free "tuple" (by decide +kernel)) (by decide +kernel) rfl) pa_nil)))) (pss_cons (ps_asg (pv 0) (pg_tup (n := 3) rfl (pgs_cons (pg_name (i := 1) sc_expression_text.nd rfl (by first | exact Or.inl rfl | exact Or.inr rfl)) (pgs_cons (pg_name (i := 2) sc_expression_text.nd rfl (by first | exact Or.inl rfl | exact Or.inr rfl)) (pgs_cons (pg_name (i := 3) sc_expression_text.nd rfl (by first | exact Or.inl rfl | exact Or.inr rfl)) pgs_nil)))))
    (pss_one (ps_ret (pe_joined (.cons pe_str (.cons (pe_fmt (pv 1)) (.cons pe_str (.cons (pe_fmt (pcall G_expression_text hr (T.glo "expression_text" (by decide +kernel)) (pa_cons (pv 2) pa_nil))) (.cons pe_str (.cons (pe_fmt (pcall G_expression_text hr (T.glo "expression_text" (by decide +kernel)) (pa_cons (pv 3) pa_nil))) (.cons pe_str .nil))))))))))) pss_nil)
    (pss_one (ps_ret (pe_callTy call_strU (by rfl) (T.free "str" (by decide +kernel)) (by decide +kernel) (pa_cons (pv 0) pa_nil)))), ?_⟩
  walk_at "st"
  refine isi_ask hd.dp (kit_tuple _) ⟨_, rfl, ?_⟩
  rcases txB_kind ht with ⟨i, rfl, hi⟩ | ⟨x, rfl, hx⟩ | ⟨ds, rfl⟩
  · obtain rfl := hd.intI
    have q := q H (.refl H)
    rw [exprT_int] at q
    exact iteFb (by rw [isi_tupleE]; rfl) (.inr ⟨i, rfl, int_log i hi, q⟩)
  · obtain ⟨rfl, _⟩ := hd.strI
    have q := q H (.refl H)
    rw [exprT_str] at q
    exact iteFb (by rw [isi_tupleE]; rfl) (.inl ⟨x, rfl, q⟩)
  obtain ⟨m, _, _, _, e, _⟩ := txB_tup ht
  cases e
theorem ok_expression_text (T : Top K mg w) : ∀ n : Nat, FnR P w K mg base CX0 (n + 1) (He.ga K "expression_text") (spExprT K n)
  | 0 => z_expression_text T (fun _ _ _ _ _ _ _ _ _ _ _ h => h.elim)
  | n + 1 => st_expression_text T (ok_expression_text T n)
theorem partT_len {k : Str} {d : PyData} (h : partTx k d) : (partT k d).length ≤ 5 := by
  unfold partT
  by_cases c : k = "args"
  · obtain ⟨es, rfl, l, _⟩ := h.1 c
    rw [if_pos c, List.length_map]
    exact l
  · rw [if_neg c]
    split
    · exact Nat.zero_le _
    · exact Nat.le_add_left 1 4
theorem flat_len {l : List (Str × PyData)} (h : ∀ q ∈ l, partTx q.1 q.2) : ∀ i, ((l.take i).flatMap fun q => partT q.1 q.2).length ≤ 5 * i
  | 0 => by simp
  | i + 1 => by
    have ih := flat_len h i
    rw [List.take_add_one, List.flatMap_append, List.length_append]
    cases e : l[i]? with
    | none => rw [Option.toList_none, List.flatMap_nil, List.length_nil]; omega
    | some q =>
      have := partT_len (h q (List.mem_of_getElem? e))
      rw [Option.toList_some, List.flatMap_cons, List.flatMap_nil, List.append_nil]
      omega
theorem lcTexts {K : PySem.W.Frag} {j : Nat} {σ : L2.St} {H : Hp} {a : Addr} {us : List V} {ds : List PyData} {Q : VK} (hj : j < σ.length) (hT : SqT K H a us) (hA : DtAll K H us ds) (hz : ds.length < sizeLine) (hx : ∀ e ∈ ds, txB 6 e = true) (q : ∀ D H', Same H H' → H D = none → H' D = some (.lst ((ds.map (exprT 6)).map V.str)) → Q (.ref D) H') :
    LcGo (Itt K a) (gName j) tYes (tCallR (spExprT K 6) (tCons (tVar j) tNil)) [j] σ H Q := by
  have hl := dta_len hA
  refine lcGo walk_tup (fun i acc _ => acc = (ds.take i).map fun d => V.str (exprT 6 d)) (fun _ _ => rfl) (fun H1 sm => (tups_of sm).sqT hT) ?_ ?_
  · rintro D i x acc H1 H2 nD hi sm hD hl2 hR ⟨rfl, ex⟩
    obtain ⟨d, hd, g⟩ := dta_of hA ex
    have e1 : (((wipe σ [j]).set j (some x))[j]?) = some (some x) := by
      rw [List.getElem?_set_self]
      rw [wipe_length]
      exact hj
    refine ⟨by simp [wipe], ?_⟩
    simp only [tYes, if_true]
    refine ⟨x, e1, x, d, rfl, g.keep (tups_of sm), hx d (List.mem_of_getElem? hd), by omega, fun H3 s3 => ⟨acc, s3 _ _ hD, by omega, .step nD (sm.trans s3) hl2 ?_⟩⟩
    rw [hR, List.take_add_one, hd]
    simp
  · rintro D acc H1 nD sm hD hl2 hR
    refine q D H1 sm nD ?_
    rw [hD, hR, List.take_of_length_le (by omega), List.map_map]
    rfl
def spWords (K : PySem.W.Frag) : Sp := fun vs H Q _ => ∃ v wd ps ks, vs = [v] ∧ Dt K H v (.tuple (.str wd :: ps)) ∧ shapeOf wd = some ks ∧ partsTx ks ps ∧ ∀ H' l, Same H H' → H l = none → StrsL H' l (wordsT wd ks ps) → Q (.ref l) H'
theorem ok_statement_words (T : Top K mg w)  : FnR P w K mg base CX0 8 (He.ga K "statement_words") (spWords K) := by
  obtain ⟨fd, F⟩ := T.def_ d_statement_words (List.mem_of_getElem? (i := 27) rfl)
  refine mkR F sc_statement_words (fun _ _ _ _ _ _ us hl => match us, hl with | [_], _ => rfl) (fun vs H Q E h => ?_) (fun cdv A outer s H vs Q E hr h => ?_)
  · obtain ⟨v, wd, ps, ks, rfl, _⟩ := h; rfl
  obtain ⟨v, wd, ps, ks, rfl, hd, hk, hp, q⟩ := h
  have G_expression_text := ok_expression_text (P := P) (w := w) (base := base) T 6
  refine ⟨_, pss_cons (ps_if (pt_cmpR (op_eq) (pe_ix (r := rIxT K) ix_tup (pv 0) pe_int (fun _ _ => rfl)) pe_str (nomark _)) (pss_one (ps_ret (pe_lst (pa_cons pe_str pa_nil)))) pss_nil)
    (pss_cons (ps_set (i := 1) sc_statement_words.nd rfl (by first | exact Or.inl rfl | exact Or.inr rfl) (pe_lst (pa_cons (pe_ix (r := rIxT K) ix_tup (pv 0) pe_int (fun _ _ => rfl)) pa_nil)))
    (pss_cons (ps_for PassesOwn.never rfl (RZ.pi_zipA (by rfl) (T.free "zip" (by decide +kernel)) (pa_cons (pe_ix (r := rIxD K w) ix_kdict (pe_gref (T.ref "SHAPES" (by decide +kernel))) (pe_ix (r := rIxT K) ix_tup (pv 0) pe_int (fun _ _ => rfl)) (fun _ _ => rfl)) (pa_cons (pe_slice (r := rSlT K) sl_tup (pv 0) (po_some pe_int) po_none) pa_nil))) (pg_tup (n := 2) rfl (pgs_cons (pg_name (i := 2) sc_statement_words.nd rfl (by first | exact Or.inl rfl | exact Or.inr rfl)) (pgs_cons (pg_name (i := 3) sc_statement_words.nd rfl (by first | exact Or.inl rfl | exact Or.inr rfl)) pgs_nil)))
    (pss_one (ps_if (pt_cmpR (op_eq) (pv 2) pe_str (nomark _)) (pss_one (ps_expr (pe_bm PySem.F.plainAttrs_list PySem.F.slot_list_extend PySem.F.type_list_extend mt_extend (pv 1) (pa_cons (pe_lc (own := [("each", 4)]) (g := (gName 4)) (tt := tYes) rfl sc_statement_words.nd (pi_tup (pv 3)) (blkOk_by (own := [("each", 4)]) (N := ["statement", "found", "kind", "part", "each"]) (sc := defScope s_statement_words) (by decide +kernel)) (fun _ _ _ _ _ => (pg_name (i := 4) sc_statement_words.nd rfl (by first | exact Or.inl rfl | exact Or.inr rfl))) (fun _ _ _ _ _ => pts_nil) (fun _ _ _ _ _ => (pcall G_expression_text hr (T.glo "expression_text" (by decide +kernel)) (pa_cons (pv 4) pa_nil)))) pa_nil)))) (pss_one (ps_if (pt_cmpR (op_ne) (pv 2) pe_str (nomark _)) (pss_one (ps_expr (pe_bm PySem.F.plainAttrs_list PySem.F.slot_list_append PySem.F.type_list_append mt_append (pv 1) (pa_cons (pcall G_expression_text hr (T.glo "expression_text" (by decide +kernel)) (pa_cons (pv 3) pa_nil)) pa_nil)))) pss_nil)))))
    (pss_one (ps_ret (pv 1))))), ?_⟩
  have zl := line_big
  obtain ⟨a, xs, rfl, hT, hX⟩ := hd.tupI
  obtain ⟨v0, vs, rfl, g0, hY⟩ := hX.consI
  obtain ⟨rfl, z0⟩ := g0.strI
  walk_at "st"
  refine ixT_at 0 hT rfl ?_
  refine ⟨rfl, ite2 (fun c => ?_) (fun c => ?_)⟩
  · have c' : wd = "try" := V.str.inj (of_decide_eq_true c)
    refine ⟨by decide, fun l nl => q _ l (same_new nl _) nl ?_⟩
    rw [StrsL, upd_same]
    unfold wordsT
    rw [if_pos c']
    rfl
  have ew : wordsT wd ks ps = wd :: (ks.zip ps).flatMap fun q => partT q.1 q.2 := by
    unfold wordsT
    rw [if_neg fun z => c (decide_eq_true (congrArg V.str z))]
  have hvl := dta_len hY
  obtain ⟨pl, pt⟩ := hp
  have kl := shape_len hk
  walk_at "st"
  refine ixT_at 0 hT rfl ⟨by decide, fun f nf => ?_⟩
  have s0 := same_new nf (.lst [.str wd])
  walk_at "st"
  refine ixT_at 0 ((tups_of s0).sqT hT) rfl (shp_ask T hk fun t hS hS' => ?_)
  walk_at "wp"
  refine sl_tail ((tups_of s0).sqT hT) fun p np => ?_
  walk_at "wp"
  have s1 := s0.trans (same_new np (.tup vs))
  have hlen : (ks.map V.str).length = vs.length := by rw [List.length_map, hvl, pl]
  have hp' : SqT K (upd (upd H f (.lst [.str wd])) p (.tup vs)) p vs := .inl (.inl upd_same)
  refine ⟨_, _, .inr ⟨hS' _, hp', forGo (walk_zipT (n := vs.length) (by omega)) (fun i σ H' => ∃ x2 x3 x4, σ = [some (V.ref a), some (V.ref f), x2, x3, x4] ∧ Same H H' ∧ StrsL H' f (wd :: ((ks.zip ps).take i).flatMap fun q => partT q.1 q.2) ∧ Tups (upd (upd H f (.lst [.str wd])) p (.tup vs)) H')
    ⟨_, _, _, rfl, s1, same_new np _ _ _ upd_same, .refl _⟩ (fun _ _ _ _ ⟨_, _, _, _, _, _, t'⟩ => ⟨hS' _, t'.sqT hp'⟩) ?_ ?_⟩⟩
  · rintro i y σ H1 H2 hi ⟨x2, x3, x4, rfl, sm, hf, tm⟩ hy
    obtain ⟨T', k, z, rfl, h1, h2, s2, hT'⟩ := pair_ask (K := K) hy
    obtain ⟨kd, hkd, rfl⟩ := strs_get h1
    obtain ⟨d, hd', gd⟩ := dta_of hY h2
    have ez := zip_get hkd hd'
    have hpt := pt _ (List.mem_of_getElem? ez)
    have es : ((ks.zip ps).take (i + 1)).flatMap (fun q => partT q.1 q.2) = ((ks.zip ps).take i).flatMap (fun q => partT q.1 q.2) ++ partT kd d := by
      rw [List.take_add_one, ez, List.flatMap_append]
      simp
    have hl5 := flat_len pt i
    have hf2 := s2 _ _ hf
    have gd2 := gd.keep (((tups_of s1).trans tm).trans (tups_of s2))
    walk_at "wp"
    refine ⟨_, hT', rfl, _, _, rfl, _, _, rfl, rfl, rfl, ite2 (fun c1 => ?_) (fun c1 => ?_)⟩
    · have c1' : kd = "args" := V.str.inj (of_decide_eq_true c1)
      obtain ⟨es', rfl, le, he⟩ := hpt.1 c1'
      obtain ⟨at', xs', rfl, hT2, hX2⟩ := gd2.tupI
      have ep : partT kd (.tuple es') = es'.map (exprT 6) := by
        unfold partT
        rw [if_pos c1']
      refine ⟨tyL hf2, at', rfl, ⟨_, hT2⟩, lcTexts (Nat.lt_succ_self 4) hT2 hX2 (by omega) he fun D H3 s3 nD eD => ?_⟩
      have hf3 := s3 _ _ hf2
      refine ext_ask hf3 eD (by simp only [List.length_map, List.length_cons]; omega) ?_
      have s4 := same_at nf (((sm.trans s2).trans s3)) (.lst ((wd :: ((ks.zip ps).take i).flatMap fun q => partT q.1 q.2).map V.str ++ (es'.map (exprT 6)).map V.str))
      refine ⟨s4, ?_, (tm.trans (tups_of (s2.trans s3))).trans (tups_lst hf3 _)⟩
      rw [StrsL, upd_same, es, ep]
      simp
    · have c1' : kd ≠ "args" := fun z => c1 (decide_eq_true (congrArg V.str z))
      refine ⟨rfl, ite2 (fun c2 => ?_) (fun c2 => ?_)⟩
      · have c2' : kd ≠ "body" := fun z => by rw [decide_eq_true (congrArg V.str z)] at c2; cases c2
        have ep : partT kd d = [exprT 6 d] := by
          unfold partT
          rw [if_neg c1', if_neg c2']
        refine ⟨tyL hf2, z, d, rfl, gd2, hpt.2 c1' c2', by omega, fun H3 s3 => ?_⟩
        have hf3 := s3 _ _ hf2
        refine app_ask hf3 (by simp only [List.length_map, List.length_cons]; omega) ?_
        have s4 := same_at nf (((sm.trans s2).trans s3)) (.lst ((wd :: ((ks.zip ps).take i).flatMap fun q => partT q.1 q.2).map V.str ++ [.str (exprT 6 d)]))
        refine ⟨s4, ?_, (tm.trans (tups_of (s2.trans s3))).trans (tups_lst hf3 _)⟩
        rw [StrsL, upd_same, es, ep]
        simp
      · have c2' : kd = "body" := by
          have : decide (V.str kd = V.str (Str.ofString "body")) = true := by simpa using c2
          exact V.str.inj (of_decide_eq_true this)
        have ep : partT kd d = [] := by
          unfold partT
          rw [if_neg c1', if_pos c2']
        refine ⟨sm.trans s2, ?_, tm.trans (tups_of s2)⟩
        rw [es, ep, List.append_nil]
        exact hf2
  · rintro σ H1 ⟨x2, x3, x4, rfl, sm, hf, tm⟩
    walk_at "wp"
    refine q H1 f sm nf ?_
    rw [ew]
    rw [List.take_of_length_le (by rw [List.length_zip]; omega)] at hf
    exact hf
end
end K91
set_option Elab.async false
set_option linter.all false
set_option maxRecDepth 100000
set_option maxHeartbeats 8000000
namespace K91
open PySem PySem.Spec PyProof.Rows L2
local macro_rules | `(tactic| walk_at "wp") => `(tactic| try simp only [cxK, cxw, cxK', cxw', start1, start2, start3, start4, start5, tRet, tRetN, tAsg, gName, gTup, gCons, gNil, gSub, tDrop, tNext, tIfS, tIf, tVar, tC, tAndV, tOrV, tNotV, tAnd, tOr, tNot, tTest, tB, tCB, tCons, tNil, tOp, tUn, rI0, rI, rU, rEq, rNe, rIn, tChain, tFld, sFld, tSl, tPart, tNoPart, tTup, tLst, tCallR, tMethR, tMethO, tBM, tBM0, tM0, tM1, tDGet, tDIn, tDNotIn, tDNewK, tCmp, t2I, tIsN, tNotN, tYes, tLc_eq, tFor_eq, tLenSetN, iItems, iVals, iKeys, iRng1, tLock, tLockE, tCallKw, tMakeKw, tMethKw, StX.tMakeR, tDc_eq, tLc2_eq, rMulS, tListVals, LiI.tListItems, LiI.rItemsL, RZ.iZipA, iStr, iTup, iList, iEnum, iEnumT, tDGet1, tDGet2, tDisp, tPairs, wipe, List.map_cons, List.map_nil,
  List.length_cons, List.length_nil, Nat.reduceAdd, Nat.reduceSub, List.replicate_succ, List.replicate_zero, if_true, if_false, Bool.not_true, Bool.not_false, Bool.false_eq_true, reduceIte,
  List.set_cons_zero, List.set_cons_succ, List.getElem?_cons_zero, List.getElem?_cons_succ, Option.some.injEq, exists_eq_left', exists_eq_left, V.int.injEq, V.str.injEq, V.bl.injEq, V.ref.injEq, V.ty.injEq, List.cons.injEq, and_true, true_and, and_assoc, exists_and_left, List.nil_append, List.cons_append, List.append_nil])
local macro_rules | `(tactic| walk_at "st") => `(tactic| (refine sq ?_; walk_at "wp"))
section
variable {P : Program} {w : World} {K : PySem.W.Frag} {mg : Str → Option Value} {base : Heap}
theorem partT_each {k : Str} {d : PyData} (h : partTx k d) : ∀ x ∈ partT k d, x.length ≤ 4788 := by
  unfold partT
  intro x hx
  by_cases c : k = "args"
  · obtain ⟨es, rfl, l, he⟩ := h.1 c
    rw [if_pos c] at hx
    obtain ⟨e, h1, rfl⟩ := List.mem_map.mp hx
    have := exprT_len 6 e (he e h1)
    omega
  · rw [if_neg c] at hx
    by_cases c2 : k = "body"
    · rw [if_pos c2] at hx
      cases hx
    · rw [if_neg c2] at hx
      rw [List.mem_singleton.mp hx]
      have := exprT_len 6 d (h.2 c c2)
      omega
theorem word_len {wd : Str} {ks : List Str} (h : shapeOf wd = some ks) : wd.length ≤ 8 := by
  have z : ∀ q ∈ shapes, q.1.length ≤ 8 := by decide +kernel
  exact z _ (shapeOf_mem h)
theorem sum_le {l : List Str} {m : Nat} (h : ∀ x ∈ l, x.length ≤ m) : (l.map (·.length)).sum ≤ l.length * m := by
  induction l with
  | nil => exact Nat.zero_le _
  | cons a r ih =>
    have i := ih fun x hx => h x (List.mem_cons_of_mem _ hx)
    have a1 := h a List.mem_cons_self
    rw [List.map_cons, List.sum_cons, List.length_cons, Nat.succ_mul]
    omega
theorem wordsT_each {wd : Str} {ks : List Str} {ps : List PyData} (hk : shapeOf wd = some ks) (hp : partsTx ks ps) : ∀ x ∈ wordsT wd ks ps, x.length ≤ 4788 := by
  intro x hx
  unfold wordsT at hx
  by_cases c : wd = "try"
  · rw [if_pos c] at hx
    rw [List.mem_singleton.mp hx]
    decide
  · rw [if_neg c] at hx
    rcases List.mem_cons.mp hx with rfl | hx
    · have := word_len hk; omega
    · obtain ⟨q, h1, h2⟩ := List.mem_flatMap.mp hx
      exact partT_each (hp.2 q h1) x h2
theorem wordsT_len {wd : Str} {ks : List Str} {ps : List PyData} (hk : shapeOf wd = some ks) (hp : partsTx ks ps) : (wordsT wd ks ps).length ≤ 21 := by
  unfold wordsT
  have kl := shape_len hk
  by_cases c : wd = "try"
  · rw [if_pos c]; decide
  · rw [if_neg c, List.length_cons]
    have := flat_len hp.2 (ks.zip ps).length
    rw [List.take_length] at this
    have e : (ks.zip ps).length ≤ 4 := by rw [List.length_zip]; omega
    omega
theorem join_fits {ws : List Str} (h1 : ∀ x ∈ ws, x.length ≤ 4788) (h2 : ws.length ≤ 21) : (ws.map (·.length)).sum + ws.length * 1 ≤ 16777216 := by
  have := sum_le h1
  have e : ws.length * 4788 ≤ 21 * 4788 := Nat.mul_le_mul_right _ h2
  omega
def spMid (K : PySem.W.Frag) : Sp := fun vs H Q _ => ∃ v wd ps, vs = [v] ∧ Dt K H v (.tuple (.str wd :: ps)) ∧ (wd ≠ "if" → ∃ a x c, ps = [a, .str x, c]) ∧ ∀ H' l, Same H H' → H l = none → StrsL H' l (midT wd ps) → Q (.ref l) H'
theorem ok_middle_words (T : Top K mg w)  : FnR P w K mg base CX0 1 (He.ga K "middle_words") (spMid K) := by
  obtain ⟨fd, F⟩ := T.def_ d_middle_words (List.mem_of_getElem? (i := 28) rfl)
  refine mkR F sc_middle_words (fun _ _ _ _ _ _ us hl => match us, hl with | [_], _ => rfl) (fun vs H Q E h => ?_) (fun cdv A outer s H vs Q E hr h => ?_)
  · obtain ⟨v, wd, ps, rfl, _⟩ := h; rfl
  obtain ⟨v, wd, ps, rfl, hd, hp, q⟩ := h
  refine ⟨_, pss_one (ps_ret (pe_ifExp (pt_cmpR (op_eq) (pe_ix (r := rIxT K) ix_tup (pv 0) pe_int (fun _ _ => rfl)) pe_str (nomark _)) (pe_lst (pa_cons (pe_gstr (T.str ("ELSE", "else") (by decide +kernel))) pa_nil)) (pe_lst (pa_cons (pe_gstr (T.str ("HANDLE", "handle") (by decide +kernel))) (pa_cons (pe_ix (r := rIxT K) ix_tup (pv 0) pe_int (fun _ _ => rfl)) pa_nil))))), ?_⟩
  obtain ⟨a, xs, rfl, hT, hX⟩ := hd.tupI
  obtain ⟨v0, vs, rfl, g0, hY⟩ := hX.consI
  obtain ⟨rfl, z0⟩ := g0.strI
  walk_at "wp"
  refine ixT_at 0 hT rfl ⟨rfl, ite2 (fun c => ?_) (fun c => ?_)⟩
  · have c' : wd = "if" := V.str.inj (of_decide_eq_true c)
    refine ⟨by decide, fun l nl => q _ l (same_new nl _) nl ?_⟩
    rw [StrsL, upd_same]
    unfold midT
    rw [if_pos c']
    rfl
  · have c' : wd ≠ "if" := fun z => c (decide_eq_true (congrArg V.str z))
    obtain ⟨a1, x, c1, rfl⟩ := hp c'
    obtain ⟨v1, vs, rfl, g1, hY⟩ := hY.consI
    obtain ⟨v2, vs, rfl, g2, hY⟩ := hY.consI
    obtain ⟨rfl, z2⟩ := g2.strI
    refine ixT_at 2 hT rfl ⟨by decide, fun l nl => q _ l (same_new nl _) nl ?_⟩
    rw [StrsL, upd_same]
    unfold midT
    rw [if_neg c']
    rfl
/-- a line -/
theorem join_str (sep : Str) (ws : List Str) : Txt.join sep ws = Str.join sep ws := by
  unfold Txt.join
  exact StrLaws.glued_eq_join sep ws
theorem mul_len (n : Nat) (h : n ≤ 100) : (Txt.mul ("  " : String) (n : Int)).length = 2 * n := by
  have e : ∀ m : Nat, m < 101 → (Txt.mul ("  " : String) (m : Int)).length = 2 * m := by decide +kernel
  exact e n (by omega)
theorem join_len (sep : Str) (ws : List Str) : (Txt.join sep ws).length ≤ (ws.map (·.length)).sum + ws.length * sep.length := by
  rw [join_str]
  exact StrLaws.join_length_le sep ws
theorem flat_take_le {α β : Type} (g : α → List β) (l : List α) (i : Nat) : ((l.take i).flatMap g).length ≤ (l.flatMap g).length := by
  have e := congrArg (fun z => (z.flatMap g).length) (List.take_append_drop i l)
  simp only [List.flatMap_append, List.length_append] at e
  omega
theorem flat_take_succ {α β : Type} (g : α → List β) {l : List α} {i : Nat} {x : α} (h : l[i]? = some x) : (l.take (i + 1)).flatMap g = (l.take i).flatMap g ++ g x := by
  rw [List.take_add_one, h, List.flatMap_append]
  simp
theorem bodies_two {wd : Str} {ks : List Str} {ps : List PyData} (hk : shapeOf wd = some ks) (h : 2 ≤ (bodiesL ks ps).length) : wd = "if" ∨ wd = "try" := by
  have z : ∀ q ∈ shapes, 2 ≤ (q.2.filter fun k => decide (k = ("body" : Str))).length → q.1 = "if" ∨ q.1 = "try" := by decide +kernel
  refine z (wd, ks) (shapeOf_mem hk) ?_
  have e : ∀ (ks : List Str) (ps : List PyData), (bodiesL ks ps).length ≤ (ks.filter fun k => decide (k = ("body" : Str))).length := by
    intro ks
    induction ks with
    | nil => intro ps; exact Nat.zero_le _
    | cons k r ih =>
      intro ps
      cases ps with
      | nil => exact Nat.zero_le _
      | cons p ps =>
        have i := ih ps
        unfold bodiesL at i ⊢
        rw [List.zip_cons_cons, List.filter_cons, List.filter_cons]
        by_cases c : k = ("body" : Str)
        · simp only [c, decide_true, if_true, List.map_cons, List.length_cons]
          omega
        · simp only [c, decide_false, Bool.false_eq_true, if_false]
          exact i
  exact Nat.le_trans h (e ks ps)
theorem midT_fits {wd : Str} {ps : List PyData} (h : wd ≠ "if" → ∃ a x c, ps = [a, .str x, c] ∧ x.length ≤ 8) : ((midT wd ps).map (·.length)).sum + (midT wd ps).length * 1 ≤ 100 := by
  unfold midT
  by_cases c : wd = "if"
  · rw [if_pos c]; decide
  · rw [if_neg c]
    obtain ⟨a, x, c1, rfl, hx⟩ := h c
    show ((("handle" : String) : Str).length + (x.length + 0)) + 2 * 1 ≤ 100
    have e : (("handle" : String) : Str).length = 6 := rfl
    omega
def spLines (K : PySem.W.Frag) (n : Nat) : Sp := fun vs H Q _ => ∃ v d, ∃ dp : Nat, vs = [v, .int dp] ∧ Dt K H v d ∧ bodyTx n d ∧ dp + n ≤ 20 ∧ (bodyT n dp d).length ≤ 100000 ∧ ∀ H' l, Same H H' → H l = none → StrsL H' l (bodyT n dp d) → Q (.ref l) H'
theorem st_body_lines (T : Top K mg w) {n : Nat} (G_body_lines : FnR P w K mg base CX0 (n + 8) (He.ga K "body_lines") (spLines K n)) : FnR P w K mg base CX0 (n + 1 + 8) (He.ga K "body_lines") (spLines K (n + 1)) := by
  obtain ⟨fd, F⟩ := T.def_ d_body_lines (List.mem_of_getElem? (i := 29) rfl)
  refine mkR F sc_body_lines (fun _ _ _ _ _ _ us hl => match us, hl with | [_, _], _ => rfl) (fun vs H Q E h => ?_) (fun cdv A outer s H vs Q E hr h => ?_)
  · obtain ⟨v, d, dp, rfl, _⟩ := h; rfl
  obtain ⟨v, d, dp, rfl, hd, hb, hn, hl, q⟩ := h
  have G_statement_words := ok_statement_words (P := P) (w := w) (base := base) T
  have G_middle_words := ok_middle_words (P := P) (w := w) (base := base) T
  have G_bodies_of := ok_bodies_of (P := P) (w := w) (base := base) T
  refine ⟨_, pss_cons (ps_set (i := 2) sc_body_lines.nd rfl (by first | exact Or.inl rfl | exact Or.inr rfl) (pe_lst pa_nil))
    (pss_cons (ps_for PassesOwn.never rfl (pi_tup (pv 0)) (pg_name (i := 3) sc_body_lines.nd rfl (by first | exact Or.inl rfl | exact Or.inr rfl))
    (pss_cons (ps_expr (pe_bm PySem.F.plainAttrs_list PySem.F.slot_list_append PySem.F.type_list_append mt_append (pv 2) (pa_cons (pe_op op_add_str (pe_op op_mul_str (pe_gstr (T.str ("STEP", "  ") (by decide +kernel))) (pv 1)) (pe_join pe_str (pcall G_statement_words hr (T.glo "statement_words" (by decide +kernel)) (pa_cons (pv 3) pa_nil)))) pa_nil)))
    (pss_one (ps_for PassesOwn.never rfl (pi_enum (by rfl) (T.free "enumerate" (by decide +kernel)) (pa_cons (pcall G_bodies_of hr (T.glo "bodies_of" (by decide +kernel)) (pa_cons (pv 3) pa_nil)) pa_nil)) (pg_tup (n := 2) rfl (pgs_cons (pg_name (i := 4) sc_body_lines.nd rfl (by first | exact Or.inl rfl | exact Or.inr rfl)) (pgs_cons (pg_name (i := 5) sc_body_lines.nd rfl (by first | exact Or.inl rfl | exact Or.inr rfl)) pgs_nil)))
    (pss_cutK (ps_if (pt_cmpR (op_eq) (pv 4) pe_int (nomark _)) (pss_one (ps_expr (pe_bm PySem.F.plainAttrs_list PySem.F.slot_list_append PySem.F.type_list_append mt_append (pv 2) (pa_cons (pe_op op_add_str (pe_op op_mul_str (pe_gstr (T.str ("STEP", "  ") (by decide +kernel))) (pv 1)) (pe_join pe_str (pcall G_middle_words hr (T.glo "middle_words" (by decide +kernel)) (pa_cons (pv 3) pa_nil)))) pa_nil)))) pss_nil)
    (pss_one (ps_expr (pe_bm PySem.F.plainAttrs_list PySem.F.slot_list_extend PySem.F.type_list_extend mt_extend (pv 2) (pa_cons (pcall G_body_lines hr (T.glo "body_lines" (by decide +kernel)) (pa_cons (pv 5) (pa_cons (pe_op op_add (pv 1) pe_int) pa_nil))) pa_nil)))))))))
    (pss_one (ps_ret (pv 2)))), ?_⟩
  have zl := line_big
  walk_at "st"
  refine ⟨Nat.zero_le _, fun f nf => ?_⟩
  obtain ⟨ds, rfl, hds, hs⟩ := hb
  obtain ⟨a, xs, rfl, hT, hA⟩ := hd.tupI
  have hlx := dta_len hA
  have s0 := same_new nf (.lst [])
  have eB : bodyT (n + 1) dp (.tuple ds) = ds.flatMap (stmtT (bodyT n (dp + 1)) dp) := rfl
  rw [eB] at hl q
  walk_at "st"
  refine ⟨⟨_, (tups_of s0).sqT hT⟩, forGo walk_tup (fun i σ H' => ∃ x3 x4 x5, σ = [some (V.ref a), some (V.int (dp : Nat)), some (V.ref f), x3, x4, x5] ∧ Same H H' ∧ StrsL H' f ((ds.take i).flatMap (stmtT (bodyT n (dp + 1)) dp)))
    ⟨_, _, _, rfl, s0, upd_same⟩ (fun _ _ _ _ ⟨_, _, _, _, sm, _⟩ => (tups_of sm).sqT hT) ?_ ?_⟩
  · rintro i y σ H1 H2 hi ⟨x3, x4, x5, rfl, sm, hf⟩ ⟨eH, ey⟩
    subst eH
    obtain ⟨d, hd', gd⟩ := dta_of hA ey
    obtain ⟨wd, ps, ks, rfl, hk, hp, htry, hB⟩ := hs d (List.mem_of_getElem? hd')
    have gd1 := gd.keep (tups_of sm)
    have l1 := flat_take_le (stmtT (bodyT n (dp + 1)) dp) ds (i + 1)
    rw [flat_take_succ _ hd', List.length_append] at l1
    walk_at "wp"
    walk_at "st"
    have pre := (ds.take i).flatMap (stmtT (bodyT n (dp + 1)) dp)
    have wl := wordsT_len hk hp
    have we := wordsT_each hk hp
    have jf := join_fits we wl
    have es : stmtT (bodyT n (dp + 1)) dp (.tuple (.str wd :: ps)) = indT dp (wordsT wd ks ps) :: ((bodiesL ks ps).zipIdx.flatMap fun q => (if q.2 = 1 then [indT dp (midT wd ps)] else []) ++ bodyT n (dp + 1) q.1) := by
      show indT dp (wordsT wd ((shapeOf wd).getD []) ps) :: ((bodiesL ((shapeOf wd).getD []) ps).zipIdx.flatMap _) = _
      rw [hk]
      rfl
    rw [es, List.length_cons] at l1
    refine ⟨tyL hf, dp, rfl, by decide, by omega, ⟨_, rfl⟩, y, wd, ps, ks, rfl, gd1, hk, hp, fun H3 wl' s3 nwl ewl => ⟨wl', rfl, _, .inl (.of ewl), jf, ?_, ?_⟩⟩
    · rw [mul_len dp (by omega)]
      have := join_len (" " : String) (wordsT wd ks ps)
      have e1 : ((" " : String) : Str).length = 1 := rfl
      rw [e1] at this
      have := sum_le we
      have e2 : (wordsT wd ks ps).length * 4788 ≤ 21 * 4788 := Nat.mul_le_mul_right _ wl
      omega
    have hf3 := s3 _ _ hf
    refine app_ask hf3 (by rw [List.length_map]; omega) ?_
    have sm4 := same_at nf (sm.trans s3) (.lst (((ds.take i).flatMap (stmtT (bodyT n (dp + 1)) dp)).map V.str ++ [.str (indT dp (wordsT wd ks ps))]))
    have t4 := (tups_of s3).trans (tups_lst hf3 (.lst (((ds.take i).flatMap (stmtT (bodyT n (dp + 1)) dp)).map V.str ++ [.str (indT dp (wordsT wd ks ps))])))
    refine ⟨y, wd, ps, ks, rfl, gd1.keep t4, hk, hp.1, fun H6 l bs s6 nl el hL => ⟨l, rfl, bs, .of el, ?_⟩⟩
    have hl6 := dta_len hL
    have sm6 := sm4.trans s6
    have hf6 := s6 _ _ (upd_same (H := H3) (a := f) (o := .lst (((ds.take i).flatMap (stmtT (bodyT n (dp + 1)) dp)).map V.str ++ [.str (indT dp (wordsT wd ks ps))])))
    have gd6 := gd1.keep (t4.trans (tups_of s6))
    have nfl : l ≠ f := by rintro rfl; rw [upd_same] at nl; cases nl
    refine forGo walk_enum (fun j σ H' => ∃ x4 x5, σ = [some (V.ref a), some (V.int (dp : Nat)), some (V.ref f), some y, x4, x5] ∧ Same H H' ∧ StrsL H' f ((ds.take i).flatMap (stmtT (bodyT n (dp + 1)) dp) ++ indT dp (wordsT wd ks ps) :: ((bodiesL ks ps).zipIdx.take j).flatMap fun q => (if q.2 = 1 then [indT dp (midT wd ps)] else []) ++ bodyT n (dp + 1) q.1) ∧ H' l = some (.lst bs) ∧ Tups H6 H')
      ⟨_, _, rfl, sm6, by rw [StrsL, hf6]; simp, el, .refl _⟩ (fun _ _ _ _ ⟨_, _, _, _, _, e, _⟩ => .of e) ?_ ?_
    · rintro j z σ Ha Hb hj ⟨x4, x5, rfl, sa, hfa, ela, ta⟩ hy
      obtain ⟨T2, k, b, rfl, h1, h2, sb, hT2⟩ := pair_ask (K := K) hy
      have ek : k = V.int (j : Nat) := (Option.some.inj h1).symm
      subst ek
      obtain ⟨db, hdb, gb⟩ := dta_of hL h2
      have hbd := hB db (List.mem_of_getElem? hdb)
      have ez : (bodiesL ks ps).zipIdx[j]? = some (db, j) := by
        rw [List.getElem?_zipIdx, hdb]
        simp
      have l2 := flat_take_le (fun q : PyData × Nat => (if q.2 = 1 then [indT dp (midT wd ps)] else []) ++ bodyT n (dp + 1) q.1) (bodiesL ks ps).zipIdx (j + 1)
      have es2 : ((bodiesL ks ps).zipIdx.take (j + 1)).flatMap (fun q : PyData × Nat => (if q.2 = 1 then [indT dp (midT wd ps)] else []) ++ bodyT n (dp + 1) q.1) = ((bodiesL ks ps).zipIdx.take j).flatMap (fun q : PyData × Nat => (if q.2 = 1 then [indT dp (midT wd ps)] else []) ++ bodyT n (dp + 1) q.1) ++ ((if j = 1 then [indT dp (midT wd ps)] else []) ++ bodyT n (dp + 1) db) := flat_take_succ (fun q : PyData × Nat => (if q.2 = 1 then [indT dp (midT wd ps)] else []) ++ bodyT n (dp + 1) q.1) ez
      rw [es2, List.length_append, List.length_append] at l2
      have gdb := gd6.keep (ta.trans (tups_of sb))
      have hfb := sb _ _ hfa
      have elb := sb _ _ ela
      have gbb := gb.keep (ta.trans (tups_of sb))
      have sab := sa.trans sb
      walk_at "wp"
      refine ⟨_, hT2, rfl, _, _, rfl, _, _, rfl, rfl, ?_⟩
      refine cutI (fun σ' H' => σ' = [some (V.ref a), some (V.int (dp : Nat)), some (V.ref f), some y, some (V.int (j : Nat)), some b] ∧ Same H H' ∧ StrsL H' f ((ds.take i).flatMap (stmtT (bodyT n (dp + 1)) dp) ++ indT dp (wordsT wd ks ps) :: (((bodiesL ks ps).zipIdx.take j).flatMap (fun q : PyData × Nat => (if q.2 = 1 then [indT dp (midT wd ps)] else []) ++ bodyT n (dp + 1) q.1) ++ (if j = 1 then [indT dp (midT wd ps)] else []))) ∧ H' l = some (.lst bs) ∧ Tups Hb H') ?_ ?_
      · walk_at "wp"
        refine ⟨rfl, ite2 (fun c1 => ?_) (fun c1 => ?_)⟩
        · have c1' : j = 1 := by have := of_decide_eq_true c1; omega
          have hw := bodies_two hk (ps := ps) (by omega)
          have hm : wd ≠ "if" → ∃ a x c, ps = [a, .str x, c] ∧ x.length ≤ 8 := fun z => htry (hw.resolve_left z)
          have mf := midT_fits hm
          rw [if_pos c1'] at l2
          rw [if_pos c1']
          refine ⟨tyL hfb, dp, rfl, by decide, by omega, ⟨_, rfl⟩, y, wd, ps, rfl, gdb, fun z => by obtain ⟨a', x', c', e, _⟩ := hm z; exact ⟨a', x', c', e⟩, fun H7 ml s7 nml eml => ⟨ml, rfl, _, .inl (.of eml), by have e1 : ((" " : String) : Str).length = 1 := rfl; rw [e1]; omega, ?_, ?_⟩⟩
          · rw [mul_len dp (by omega)]
            have := join_len (" " : String) (midT wd ps)
            have e1 : ((" " : String) : Str).length = 1 := rfl
            rw [e1] at this
            omega
          have hf7 := s7 _ _ hfb
          refine app_ask hf7 (by simp only [List.length_map, List.length_append, List.length_cons]; omega) ?_
          refine ⟨same_at nf (sab.trans s7) _, ?_, by rw [upd_ne nfl]; exact s7 _ _ elb, (tups_of s7).trans (tups_lst hf7 _)⟩
          rw [StrsL, upd_same]
          simp [indT]
        · have c1' : j ≠ 1 := fun z => c1 (decide_eq_true (by rw [z]; rfl))
          rw [if_neg c1', List.append_nil]
          exact ⟨sab, hfb, elb, .refl _⟩
      · rintro σ' Hc ⟨rfl, sc, hfc, elc, tc⟩
        walk_at "wp"
        refine ⟨tyL hfc, b, db, dp + 1, by simp, gbb.keep tc, hbd, by omega, by omega, fun Hd l3 sd nl3 el3 => ?_⟩
        have hfd := sd _ _ hfc
        refine ext_ask hfd el3 (by simp only [List.length_map, List.length_append, List.length_cons]; omega) ?_
        refine ⟨same_at nf (sc.trans sd) _, ?_, by rw [upd_ne nfl]; exact sd _ _ elc, ((ta.trans (tups_of sb)).trans tc).trans ((tups_of sd).trans (tups_lst hfd _))⟩
        rw [StrsL, upd_same, es2]
        simp
    · rintro σ Ha ⟨x4, x5, rfl, sa, hfa, ela, ta⟩
      refine ⟨_, _, _, rfl, sa, ?_⟩
      rw [flat_take_succ _ hd', es]
      have etk : (bodiesL ks ps).zipIdx.take bs.length = (bodiesL ks ps).zipIdx := List.take_of_length_le (by rw [List.length_zipIdx]; omega)
      rw [etk] at hfa
      exact hfa
  · rintro σ H1 ⟨x3, x4, x5, rfl, sm, hf⟩
    walk_at "wp"
    refine q H1 f sm nf ?_
    rw [List.take_of_length_le (by omega)] at hf
    exact hf
theorem ok_body_lines (T : Top K mg w) : ∀ n : Nat, FnR P w K mg base CX0 (n + 8) (He.ga K "body_lines") (spLines K n)
  | 0 => fun A outer s H us vs Q E _ _ _ h => by
    obtain ⟨_, _, _, _, _, h, _⟩ := h
    exact h.elim
  | n + 1 => st_body_lines T (ok_body_lines T n)
end
end K91
set_option Elab.async false
set_option linter.all false
set_option maxRecDepth 100000
set_option maxHeartbeats 8000000
namespace K91
open PySem PySem.Spec PyProof.Rows L2
local macro_rules | `(tactic| walk_at "wp") => `(tactic| try simp only [cxK, cxw, cxK', cxw', start1, start2, start3, start4, start5, tRet, tRetN, tAsg, gName, gTup, gCons, gNil, gSub, tDrop, tNext, tIfS, tIf, tVar, tC, tAndV, tOrV, tNotV, tAnd, tOr, tNot, tTest, tB, tCB, tCons, tNil, tOp, tUn, rI0, rI, rU, rEq, rNe, rIn, tChain, tFld, sFld, tSl, tPart, tNoPart, tTup, tLst, tCallR, tMethR, tMethO, tBM, tBM0, tM0, tM1, tDGet, tDIn, tDNotIn, tDNewK, tCmp, t2I, tIsN, tNotN, tYes, tLc_eq, tFor_eq, tLenSetN, iItems, iVals, iKeys, iRng1, tLock, tLockE, tCallKw, tMakeKw, tMethKw, StX.tMakeR, tDc_eq, tLc2_eq, rMulS, tListVals, LiI.tListItems, LiI.rItemsL, RZ.iZipA, iStr, iTup, iList, iEnum, iEnumT, tDGet1, tDGet2, tDisp, tPairs, wipe, List.map_cons, List.map_nil,
  List.length_cons, List.length_nil, Nat.reduceAdd, Nat.reduceSub, List.replicate_succ, List.replicate_zero, if_true, if_false, Bool.not_true, Bool.not_false, Bool.false_eq_true, reduceIte,
  List.set_cons_zero, List.set_cons_succ, List.getElem?_cons_zero, List.getElem?_cons_succ, Option.some.injEq, exists_eq_left', exists_eq_left, V.int.injEq, V.str.injEq, V.bl.injEq, V.ref.injEq, V.ty.injEq, List.cons.injEq, and_true, true_and, and_assoc, exists_and_left, List.nil_append, List.cons_append, List.append_nil])
local macro_rules | `(tactic| walk_at "st") => `(tactic| (refine sq ?_; walk_at "wp"))
section
variable {P : Program} {w : World} {K : PySem.W.Frag} {mg : Str → Option Value} {base : Heap}
def boxLine (b : Box91) : Str := Str.empty ++ "box " ++ b.name ++ " " ++ b.rule ++ " " ++ ((toString b.val : String) : Str)
def headLine (f : Fn91) : Str := Txt.join " " ("function" :: f.name :: f.heads)
def fnLines (f : Fn91) : List Str := headLine f :: bodyT 8 1 f.body
def progLines (fs : List Fn91) (bs : List Box91) : List Str := bs.map boxLine ++ fs.flatMap fnLines
def addNl (x : Str) : Str := x ++ (("\n" : String) : Str)
def progText (fs : List Fn91) (bs : List Box91) : Str := Txt.join "" ((progLines fs bs).map addNl)
/-- the texts are short enough -/
structure FmtOk (fs : List Fn91) (bs : List Box91) : Prop where
  fns : fnsOk fs
  boxes : boxesOk bs
  body : ∀ f ∈ fs, bodyTx 8 f.body
  many : (progLines fs bs).length ≤ 100000
  long : ((progLines fs bs).map (·.length)).sum ≤ 16000000
theorem mem_le_sum {l : List Str} {x : Str} (h : x ∈ l) : x.length ≤ (l.map (·.length)).sum := by
  induction l with
  | nil => cases h
  | cons a r ih =>
    rw [List.map_cons, List.sum_cons]
    rcases List.mem_cons.mp h with rfl | h
    · omega
    · have := ih h; omega
theorem name_len {x : Str} (h : nameB x = true) : x.length ≤ 8 := by
  unfold nameB at h
  simp only [Bool.and_eq_true, decide_eq_true_eq] at h
  omega
theorem rule_len {x : Str} (h : x ∈ rulesL) : x.length ≤ 8 := by
  have z : ∀ q ∈ rulesL, q.length ≤ 8 := by decide +kernel
  exact z x h
theorem limit_abs {i : Int} (h1 : -limit ≤ i) (h2 : i ≤ limit) : i.natAbs ≤ 1000000000000000000000000000000000000000000000000000000000000 := by
  unfold limit at h1 h2
  omega
def spFormat (K : PySem.W.Frag) : Sp := fun vs H Q _ => ∃ p fs bs, vs = [.ref p] ∧ ProgAt K H p fs bs ∧ FmtOk fs bs ∧ ∀ H', Same H H' → Q (.str (progText fs bs)) H'
theorem okb_format_program (T : Top K mg w)  : FnR P w K mg base CX0 20 (He.ga K "format_program") (spFormat K) ∧ FnK P w K mg base 20 (He.ga K "format_program") (spFormat K) 0 ["program"] := by
  obtain ⟨fd, F⟩ := T.def_ d_format_program (List.mem_of_getElem? (i := 30) rfl)
  refine mkB F sc_format_program (fun _ _ _ _ _ _ us hl => match us, hl with | [_], _ => rfl) (fun _ _ _ _ _ _ us ws h1 h2 => match us, ws, h1, h2 with | [], [_], _, _ => rfl) (fun vs H Q E h => ?_) (fun cdv A outer s H vs Q E hr h => ?_)
  · obtain ⟨p, fs, bs, rfl, _⟩ := h; rfl
  obtain ⟨p, fs, bs, rfl, hp, ⟨o1, o2, o3, o4, o5⟩, q⟩ := h
  have G_Program_boxes := ok_Program_boxes (P := P) (w := w) (base := base) T
  have G_Program_functions := ok_Program_functions (P := P) (w := w) (base := base) T
  have G_Program_parameters := ok_Program_parameters (P := P) (w := w) (base := base) T
  have G_Program_body := ok_Program_body (P := P) (w := w) (base := base) T
  have G_body_lines := ok_body_lines (P := P) (w := w) (base := base) T 8
  refine ⟨_, pss_cons (ps_setLc (i := 1) (own := [("box", 3), ("rule", 4), ("first", 5)]) (g := (gTup K 3 (gCons (gName 3) (gCons (gName 4) (gCons (gName 5) gNil))))) (tt := tYes) rfl sc_format_program.nd rfl rfl (sw_true rfl rfl rfl (by decide +kernel)) (pi_list (pmeth0' (T.cls "Program" (by decide +kernel)).1 (T.meth ("Program", "boxes") (by decide +kernel)) G_Program_boxes hr (pv 0))) (blkOk_by (own := [("box", 3), ("rule", 4), ("first", 5)]) (N := ["program", "lines", "function", "box", "rule", "first", "line"]) (sc := defScope s_format_program) (by decide +kernel)) (fun _ _ _ _ _ => (pg_tup (n := 3) rfl (pgs_cons (pg_name (i := 3) sc_format_program.nd rfl (by first | exact Or.inl rfl | exact Or.inr rfl)) (pgs_cons (pg_name (i := 4) sc_format_program.nd rfl (by first | exact Or.inl rfl | exact Or.inr rfl)) (pgs_cons (pg_name (i := 5) sc_format_program.nd rfl (by first | exact Or.inl rfl | exact Or.inr rfl)) pgs_nil))))) (fun _ _ _ _ _ => pts_nil) (fun _ _ _ _ _ => (pe_joined (.cons pe_str (.cons (pe_fmt (pv 3)) (.cons pe_str (.cons (pe_fmt (pv 4)) (.cons pe_str (.cons (pe_fmt (pv 5)) .nil)))))))))
    (pss_cons (ps_for PassesOwn.never rfl (pi_list (pmeth0' (T.cls "Program" (by decide +kernel)).1 (T.meth ("Program", "functions") (by decide +kernel)) G_Program_functions hr (pv 0))) (pg_name (i := 2) sc_format_program.nd rfl (by first | exact Or.inl rfl | exact Or.inr rfl))
    (pss_cons (ps_expr (pe_bm PySem.F.plainAttrs_list PySem.F.slot_list_append PySem.F.type_list_append mt_append (pv 1) (pa_cons (pe_join pe_str (pe_op op_cat (pe_lst (pa_cons pe_str (pa_cons (pv 2) pa_nil))) (pe_methR (pv 0) (T.cls "Program" (by decide +kernel)).1 (T.meth ("Program", "parameters") (by decide +kernel)) G_Program_parameters (hr.mono (by omega)) pass0 (pa_cons (pv 2) pa_nil)))) pa_nil)))
    (pss_one (ps_expr (pe_bm PySem.F.plainAttrs_list PySem.F.slot_list_extend PySem.F.type_list_extend mt_extend (pv 1) (pa_cons (pcall G_body_lines hr (T.glo "body_lines" (by decide +kernel)) (pa_cons (pe_methR (pv 0) (T.cls "Program" (by decide +kernel)).1 (T.meth ("Program", "body") (by decide +kernel)) G_Program_body (hr.mono (by omega)) pass0 (pa_cons (pv 2) pa_nil)) (pa_cons pe_int pa_nil))) pa_nil))))))
    (pss_one (ps_ret (pe_join pe_str (pe_lc (own := [("line", 6)]) (g := (gName 6)) (tt := tYes) rfl sc_format_program.nd (pi_list (pv 1)) (blkOk_by (own := [("line", 6)]) (N := ["program", "lines", "function", "box", "rule", "first", "line"]) (sc := defScope s_format_program) (by decide +kernel)) (fun _ _ _ _ _ => (pg_name (i := 6) sc_format_program.nd rfl (by first | exact Or.inl rfl | exact Or.inr rfl))) (fun _ _ _ _ _ => pts_nil) (fun _ _ _ _ _ => (pe_op op_add_str (pv 6) pe_str))))))), ?_⟩
  have zl := line_big
  have hp0 := hp
  obtain ⟨dx, h, b, r, t, l, hp, hv, bv, rv, us, e1, g1, e2, g2, e3, g3, e4, e5⟩ := hp
  have c := (T.cls "Program" (by decide +kernel)).1
  walk_at "st"
  refine ⟨dx, _, hp, rfl, p, fs, bs, rfl, hp0, fun H1 l1 s1 nl1 hR => ⟨l1, rfl, ?_⟩⟩
  obtain ⟨rv1, hrv, hB⟩ := hR
  have lb := dta_len hB
  rw [List.length_map] at lb
  refine ⟨⟨_, .of hrv⟩, lcGo (walk_list (xs := rv1)) (fun i acc _ => acc = ((bs.take i).map boxLine).map V.str) (fun _ _ => rfl) (fun H' s' => .of (s' _ _ hrv)) ?_ ?_⟩
  · rintro D i x acc H2 H3 nD hi s2 eD la ra ⟨eH, ex⟩
    subst eH
    obtain ⟨d, ed, gd⟩ := dta_of (hB.keep (tups_of s2)) ex
    obtain ⟨bx, eb, rfl⟩ := Option.map_eq_some_iff.mp (by rw [← List.getElem?_map]; exact ed)
    obtain ⟨b1, b2, b3, b4⟩ := o2.2.1 bx (List.mem_of_getElem? eb)
    obtain ⟨a', xs, rfl, hT, hX⟩ := gd.tupI
    obtain ⟨v0, _, rfl, k0, hX⟩ := hX.consI
    obtain ⟨v1, _, rfl, k1, hX⟩ := hX.consI
    obtain ⟨v2, _, rfl, k2, hX⟩ := hX.consI
    obtain rfl := hX.nilI
    obtain ⟨rfl, z0⟩ := k0.strI
    obtain ⟨rfl, z1⟩ := k1.strI
    obtain rfl := k2.intI
    have n0 := name_len b1
    have n1 := rule_len b2
    have n2 := limit_abs b3 b4
    have n3 := int_len _ n2
    have z : ∀ k : Nat, k ≤ 1000000 → k ≤ sizeLine := fun k h => by omega
    have e1' : (Str.empty).length = 0 := rfl
    have e2' : (("box " : String) : Str).length = 4 := rfl
    have e3' : ((" " : String) : Str).length = 1 := rfl
    walk_at "wp"
    refine ⟨_, hT, rfl, _, _, rfl, _, _, rfl, _, _, rfl, rfl, ?_⟩
    simp only [tJs, tFmt]
    walk_at "wp"
    refine ⟨z _ (by simp only [Str.length_append, e1', e2', e3']; omega), .inl ⟨z _ (by omega), z _ (by simp only [Str.length_append, e1', e2', e3']; omega), z _ (by simp only [Str.length_append, e1', e2', e3']; omega), .inl ⟨z _ (by omega), z _ (by simp only [Str.length_append, e1', e2', e3']; omega), z _ (by simp only [Str.length_append, e1', e2', e3']; omega), .inr ⟨int_log _ n2, z _ (by simp only [Str.length_append, e1', e2', e3']; omega), acc, eD, by have := o2.1; omega, .step nD s2 la ?_⟩⟩⟩⟩
    show acc ++ _ = _
    rw [ra, List.take_add_one, eb, List.map_append, List.map_append]
    rfl
  rintro D acc H2 nD s2 eD la ra
  have hD : StrsL H2 D (bs.map boxLine) := by rw [StrsL, eD, ra, List.take_of_length_le (by omega)]
  walk_at "st"
  have s12 := s1.trans s2
  have hpD := s12 _ _ hp
  have nd := o1.2.2.2.1
  have nDH : H D = none := by
    cases e : H D with
    | none => rfl
    | some u => rw [s1 _ _ e] at nD; cases nD
  refine ⟨dx, _, hpD, rfl, p, fs, bs, rfl, hp0.same s12, fun H3 l3 s3 nl3 e3 => ⟨l3, rfl, ⟨_, .of e3⟩, ?_⟩⟩
  have nDl : D ≠ l3 := by rintro rfl; rw [hD] at nl3; cases nl3
  have hll : ∀ i, (((bs.map boxLine) ++ (fs.take i).flatMap fnLines)).length ≤ 100000 := fun i => by
    have := flat_take_le fnLines fs i
    have o4' := o4
    unfold progLines at o4'
    rw [List.length_append] at o4' ⊢
    omega
  refine forGo (walk_list (xs := (fs.map Fn91.name).map V.str)) (fun i σ H' => ∃ x2, σ = [some (V.ref p), some (V.ref D), x2, none, none, none, none] ∧ Same H H' ∧ StrsL H' D ((bs.map boxLine) ++ (fs.take i).flatMap fnLines) ∧ H' l3 = some (.lst ((fs.map Fn91.name).map V.str)))
    ⟨_, rfl, s12.trans s3, by rw [List.take_zero, List.flatMap_nil, List.append_nil]; exact s3 _ _ hD, e3⟩ (fun _ _ _ _ ⟨_, _, _, _, e⟩ => .of e) ?_ ?_
  · rintro i y σ H4 H5 hi ⟨x2, rfl, s4, hD4, e4'⟩ ⟨eH, ey⟩
    subst eH
    rw [List.length_map, List.length_map] at hi
    have ef : fs[i]? = some (fs[i]'hi) := List.getElem?_eq_getElem hi
    generalize fs[i]'hi = f at ef
    obtain rfl : y = V.str f.name := by
      rw [List.getElem?_map, List.getElem?_map, ef] at ey
      exact (Option.some.inj ey).symm
    have fm := List.mem_of_getElem? ef
    obtain ⟨f1, f2, f3, f4, f5⟩ := o1.2.2.1 f fm
    have hl1 := hll (i + 1)
    rw [flat_take_succ _ ef, List.length_append, List.length_append] at hl1
    have efl : fnLines f = headLine f :: bodyT 8 1 f.body := rfl
    rw [efl, List.length_cons, List.length_map] at hl1
    walk_at "wp"
    walk_at "st"
    refine ⟨tyL hD4, ⟨_, rfl⟩, by decide, fun lp nlp => ?_⟩
    have s5 := same_new nlp (.lst [.str "function", .str f.name])
    have s45 := s4.trans s5
    refine ⟨dx, _, s45 _ _ hp, rfl, p, fs, bs, f, rfl, hp0.same s45, fm, nd, fun H6 pl s6 npl epl => ?_⟩
    refine ⟨lp, pl, _, _, rfl, rfl, s6 _ _ upd_same, epl, by simp; omega, fun cl ncl => ?_⟩
    have s456 := s45.trans (s6.trans (same_new ncl (.lst ([V.str "function", V.str f.name] ++ f.heads.map V.str))))
    refine ⟨cl, rfl, (("function" : String) : Str) :: f.name :: f.heads, .inl (.of upd_same), ?_, ?_⟩
    · have hx : ∀ x ∈ (("function" : String) : Str) :: f.name :: f.heads, Str.length x ≤ 8 := by
        intro x hx
        rcases List.mem_cons.mp hx with rfl | hx
        · decide
        · rcases List.mem_cons.mp hx with rfl | hx
          · exact name_len f1
          · exact name_len (f3 x hx)
      have := sum_le hx
      have e1' : ((" " : String) : Str).length = 1 := rfl
      rw [e1']
      simp only [List.length_cons] at this ⊢
      omega
    have hD7 := (s5.trans (s6.trans (same_new ncl (.lst ([V.str "function", V.str f.name] ++ f.heads.map V.str))))) _ _ hD4
    have e47 := (s5.trans (s6.trans (same_new ncl (.lst ([V.str "function", V.str f.name] ++ f.heads.map V.str))))) _ _ e4'
    refine app_ask hD7 (by rw [List.length_map, List.length_append, List.length_map]; omega) ?_
    have s8 := same_at nDH s456 (.lst ((bs.map boxLine ++ (fs.take i).flatMap fnLines).map V.str ++ [.str (headLine f)]))
    refine ⟨tyL upd_same, dx, _, s8 _ _ hp, rfl, p, fs, bs, f, rfl, hp0.same s8, fm, nd, fun H9 v s9 gv => ?_⟩
    refine ⟨v, f.body, 1, by simp, gv, o3 f fm, by omega, by omega, fun H10 bl s10 nbl ebl => ?_⟩
    have hD10 := (s9.trans s10) _ _ upd_same
    refine ext_ask hD10 ebl (by simp only [List.length_append, List.length_map, List.length_cons, List.length_nil]; omega) ?_
    refine ⟨same_at nDH (s8.trans (s9.trans s10)) _, ?_, ?_⟩
    · rw [StrsL, upd_same, flat_take_succ _ ef, efl]
      simp [headLine]
    · rw [upd_ne (Ne.symm nDl)]
      exact (s9.trans s10) _ _ (by rw [upd_ne (Ne.symm nDl)]; exact e47)
  · rintro σ H4 ⟨x2, rfl, s4, hD4, e4'⟩
    walk_at "wp"
    have hPL : StrsL H4 D (progLines fs bs) := by
      rw [List.take_of_length_le (by simp)] at hD4
      exact hD4
    refine ⟨⟨_, rfl⟩, ⟨_, .of hPL⟩, lcGo (walk_list (xs := (progLines fs bs).map V.str)) (fun i acc _ => acc = (((progLines fs bs).take i).map addNl).map V.str) (fun _ _ => rfl) (fun H' s' => .of (s' _ _ hPL)) ?_ ?_⟩
    · rintro D2 i x acc H5 H6 nD2 hi s5 eD2 la ra ⟨eH, ex⟩
      subst eH
      rw [List.length_map] at hi
      have el : (progLines fs bs)[i]? = some ((progLines fs bs)[i]'hi) := List.getElem?_eq_getElem hi
      have lm : ((progLines fs bs)[i]'hi).length ≤ 16000000 := by
        have := mem_le_sum (List.getElem_mem hi)
        omega
      generalize (progLines fs bs)[i]'hi = t at el lm
      obtain rfl : x = V.str t := by
        rw [List.getElem?_map, el] at ex
        exact (Option.some.inj ex).symm
      walk_at "wp"
      have zs : sizeLine = 16777216 := sizeLine_eq
      have e1' : (("\n" : String) : Str).length = 1 := rfl
      refine ⟨by omega, acc, eD2, by omega, .step nD2 s5 la ?_⟩
      rw [ra, List.take_add_one, el, List.map_append, List.map_append]
      rfl
    · rintro D2 acc H5 nD2 s5 eD2 la ra
      refine ⟨D2, rfl, (progLines fs bs).map addNl, .inl (.of ?_), ?_, q H5 (s4.trans s5)⟩
      · rw [eD2, ra, List.take_of_length_le (by simp)]
      · have e1' : (("" : String) : Str).length = 0 := rfl
        rw [e1', Nat.mul_zero, List.map_map]
        have e2' : ∀ l : List Str, (l.map ((fun x => Str.length x) ∘ addNl)).sum = (l.map (·.length)).sum + l.length := by
          intro l
          induction l with
          | nil => rfl
          | cons a r ih =>
            have e3' : (("\n" : String) : Str).length = 1 := rfl
            rw [List.map_cons, List.sum_cons, ih, List.map_cons, List.sum_cons, List.length_cons, Function.comp_apply]
            unfold addNl
            rw [Str.length_append, e3']
            omega
        rw [e2']
        omega
theorem ok_format_program (T : Top K mg w) : FnR P w K mg base CX0 20 (He.ga K "format_program") (spFormat K) := (okb_format_program T).1
theorem okk_format_program (T : Top K mg w) : FnK P w K mg base 20 (He.ga K "format_program") (spFormat K) 0 ["program"] := (okb_format_program T).2
end
end K91
set_option Elab.async false
set_option linter.all false
set_option maxRecDepth 100000
set_option maxHeartbeats 8000000
namespace K91
open PySem PySem.Spec PyProof.Rows L2 _root_.SX PySem.NumText
local macro_rules | `(tactic| walk_at "wp") => `(tactic| try simp only [cxK, cxw, cxK', cxw', start1, start2, start3, start4, start5, tRet, tRetN, tAsg, gName, gTup, gCons, gNil, gSub, tDrop, tNext, tIfS, tIf, tVar, tC, tAndV, tOrV, tNotV, tAnd, tOr, tNot, tTest, tB, tCB, tCons, tNil, tOp, tUn, rI0, rI, rU, rEq, rNe, rIn, tChain, tFld, sFld, tSl, tPart, tNoPart, tTup, tLst, tCallR, tMethR, tMethO, tBM, tBM0, tM0, tM1, tDGet, tDIn, tDNotIn, tDNewK, tCmp, t2I, tIsN, tNotN, tYes, tLc_eq, tFor_eq, tLenSetN, iItems, iVals, iKeys, iRng1, tLock, tLockE, tCallKw, tMakeKw, tMethKw, StX.tMakeR, tDc_eq, tLc2_eq, rMulS, tListVals, LiI.tListItems, LiI.rItemsL, RZ.iZipA, iStr, iTup, iList, iEnum, iEnumT, tDGet1, tDGet2, tDisp, tPairs, wipe, List.map_cons, List.map_nil,
  List.length_cons, List.length_nil, Nat.reduceAdd, Nat.reduceSub, List.replicate_succ, List.replicate_zero, if_true, if_false, Bool.not_true, Bool.not_false, Bool.false_eq_true, reduceIte,
  List.set_cons_zero, List.set_cons_succ, List.getElem?_cons_zero, List.getElem?_cons_succ, Option.some.injEq, exists_eq_left', exists_eq_left, V.int.injEq, V.str.injEq, V.bl.injEq, V.ref.injEq, V.ty.injEq, List.cons.injEq, and_true, true_and, and_assoc, exists_and_left, List.nil_append, List.cons_append, List.append_nil])
local macro_rules | `(tactic| walk_at "st") => `(tactic| (refine sq ?_; walk_at "wp"))
section
variable {P : Program} {w : World} {K : PySem.W.Frag} {mg : Str → Option Value} {base : Heap}
/-! ### signs -/
theorem ofString_app (a b : String) : Str.ofString (a ++ b) = Str.ofString a ++ Str.ofString b := by
  rw [Str.ofString_eq_toList, Str.ofString_eq_toList, Str.ofString_eq_toList, String.toList_append, List.map_append]
  exact (S_cat _ _).symm
def numC (i : Int) : List Nat := if i < 0 then 45 :: TL.numL i.natAbs else TL.numL i.natAbs
theorem num_text (i : Int) : ((toString i : String) : Str) = S (numC i) := by
  unfold numC
  by_cases h : i < 0
  · rw [if_pos h, PyProof.Rows.toString_neg h]
    have e : (0 - i) = ((i.natAbs : Nat) : Int) := by omega
    rw [e]
    rw [ofString_app, num_S, show Str.ofString "-" = S [45] from rfl, S_cat]
    rfl
  · rw [if_neg h]
    have e : i = ((i.natAbs : Nat) : Int) := by omega
    rw [e, num_S]
    simp
def smallI (i : Int) : Prop := i.natAbs ≤ 1000000000000000000000000000000000000000000000000000000000000
theorem cutS_mid (L : List Nat) (a b : Nat) : cutS (S L) (some (a : Int)) (some (b : Int)) = S ((L.drop a).take (b - a)) := by
  unfold cutS
  rw [HT.sIx_nat, HT.sIx_nat, S_len]
  show S (((L.drop (min a L.length)).take (min b L.length - min a L.length))) = _
  congr 1
  by_cases h : a ≤ L.length
  · rw [Nat.min_eq_left h]
    by_cases h2 : b ≤ L.length
    · rw [Nat.min_eq_left h2]
    · rw [Nat.min_eq_right (by omega), List.take_of_length_le (by rw [List.length_drop]; exact Nat.le_refl _), List.take_of_length_le (by rw [List.length_drop]; omega)]
  · rw [List.drop_of_length_le (show L.length ≤ min a L.length by omega), List.drop_of_length_le (show L.length ≤ a by omega)]
    simp
theorem cutS_to (L : List Nat) (b : Nat) : cutS (S L) none (some (b : Int)) = S (L.take b) := by
  unfold cutS
  rw [HT.sIx_nat, HT.sIx_none, S_len]
  show S (((L.drop 0).take (min b L.length - 0))) = _
  rw [List.drop_zero, Nat.sub_zero]
  congr 1
  by_cases h2 : b ≤ L.length
  · rw [Nat.min_eq_left h2]
  · rw [Nat.min_eq_right (by omega), List.take_of_length_le (Nat.le_refl _), List.take_of_length_le (by omega)]
theorem cutS_from (L : List Nat) (a : Nat) : cutS (S L) (some (a : Int)) none = S (L.drop a) := by
  unfold cutS
  rw [HT.sIx_nat, HT.sIx_none, S_len]
  show S (((L.drop (min a L.length)).take (L.length - min a L.length))) = _
  congr 1
  by_cases h : a ≤ L.length
  · rw [Nat.min_eq_left h, List.take_of_length_le (by rw [List.length_drop]; exact Nat.le_refl _)]
  · rw [List.drop_of_length_le (show L.length ≤ min a L.length by omega), List.drop_of_length_le (show L.length ≤ a by omega)]
    simp
def lettersC (L : List Nat) : Prop := ∀ c ∈ L, 97 ≤ c ∧ c ≤ 122
theorem name_S {L : List Nat} (h : nameB (S L) = true) : 1 ≤ L.length ∧ L.length ≤ 8 ∧ lettersC L := by
  unfold nameB at h
  rw [S_len] at h
  simp only [Bool.and_eq_true, decide_eq_true_eq] at h
  refine ⟨by omega, by omega, fun c hc => ?_⟩
  have z : ∀ c ∈ letters.cps.toList, 97 ≤ c ∧ c ≤ 122 := by decide +kernel
  exact z c (of_decide_eq_true (List.all_eq_true.mp h.2 c hc))
theorem numL_pos : ∀ (n : Nat) (r : List Nat), TL.numL n = 48 :: r → n = 0 := by
  intro n
  induction n using Nat.strongRecOn with
  | _ n ih =>
    intro r e
    by_cases h : n < 10
    · rw [TL.numL_lt h] at e
      have := (List.cons.inj e).1
      omega
    · rw [TL.numL_step (by omega)] at e
      cases e2 : TL.numL (n / 10) with
      | nil => exact absurd e2 (TL.numL_ne _)
      | cons c t =>
        rw [e2, List.cons_append] at e
        have e3 := (List.cons.inj e).1
        subst e3
        have := ih (n / 10) (by omega) t e2
        omega
theorem numC_len {i : Int} (h : smallI i) : (numC i).length ≤ 62 ∧ (TL.numL i.natAbs).length ≤ 61 ∧ 1 ≤ (TL.numL i.natAbs).length := by
  have l1 : (TL.numL i.natAbs).length ≤ 61 := TL.numL_len (by decide) (Nat.lt_of_le_of_lt h (by decide))
  have l2 : 1 ≤ (TL.numL i.natAbs).length := by
    cases e : TL.numL i.natAbs with
    | nil => exact absurd e (TL.numL_ne _)
    | cons a r => simp
  refine ⟨?_, l1, l2⟩
  unfold numC
  by_cases z : i < 0
  · rw [if_pos z, List.length_cons]; omega
  · rw [if_neg z]; omega
theorem numC_val {i : Int} (h : smallI i) : intText? (S (numC i)) = some i := by
  have l := numC_len h
  unfold numC at l ⊢
  by_cases z : i < 0
  · rw [if_pos z] at l ⊢
    rw [intText_neg (cs := TL.numL i.natAbs) rfl (TL.numL_digits _) (TL.numL_ne _) (by rw [S_len]; omega), TL.numL_val]
    congr 1
    omega
  · rw [if_neg z] at l ⊢
    rw [intText_digits (x := S (TL.numL i.natAbs)) (TL.numL_digits _) (TL.numL_ne _) (by rw [S_len]; omega)]
    show some ((NumText.digitsVal (TL.numL i.natAbs) : Nat) : Int) = _
    rw [TL.numL_val]
    congr 1
    omega
def digitC (c : Nat) : Bool := decide (c ∈ ("0123456789" : Str).cps.toList)
theorem digitC_of {c : Nat} (h : 48 ≤ c ∧ c ≤ 57) : digitC c = true := by
  have z : ∀ c, c < 58 → 48 ≤ c → digitC c = true := by decide +kernel
  exact z c (by omega) h.1
theorem digitC_not {c : Nat} (h : 97 ≤ c) : digitC c = false := by
  unfold digitC
  refine decide_eq_false fun m => ?_
  have z : ∀ c ∈ ("0123456789" : Str).cps.toList, c ≤ 57 := by decide +kernel
  have := z c m
  omega
theorem num_not_name {i : Int} (h : nameB (S (numC i)) = true) : False := by
  obtain ⟨_, _, n3⟩ := name_S h
  cases e : TL.numL i.natAbs with
  | nil => exact absurd e (TL.numL_ne _)
  | cons a r =>
    have h1 := n3 a (by
      unfold numC
      by_cases z : i < 0
      · rw [if_pos z, e]; simp
      · rw [if_neg z, e]; simp)
    have h2 := TL.numL_digits i.natAbs a (by rw [e]; simp)
    omega
def spNum : Sp := fun vs H Q _ => ∃ L, vs = [.str (S L)] ∧ ((∃ i, L = numC i ∧ smallI i ∧ ∀ H', Same H H' → Q (.int i) H') ∨ (nameB (S L) = true ∧ ∀ H', Same H H' → Q .non H'))
theorem ok_number_in (T : Top K mg w)  : FnR P w K mg base CX0 1 (He.ga K "number_in") (spNum) := by
  obtain ⟨fd, F⟩ := T.def_ d_number_in (List.mem_of_getElem? (i := 31) rfl)
  refine mkR F sc_number_in (fun _ _ _ _ _ _ us hl => match us, hl with | [_], _ => rfl) (fun vs H Q E h => ?_) (fun cdv A outer s H vs Q E hr h => ?_)
  · obtain ⟨L, rfl, _⟩ := h; rfl
  obtain ⟨L, rfl, h⟩ := h
  refine ⟨_, pss_cutK (ps_set (i := 1) sc_number_in.nd rfl (by first | exact Or.inl rfl | exact Or.inr rfl) (pe_ifExp (pt_cmpR (op_eq) (pe_slice sl_str (pv 0) po_none (po_some pe_int)) pe_str (nomark _)) (pe_slice sl_str (pv 0) (po_some pe_int) po_none) (pv 0)))
    (pss_cons (ps_if (PW.pt (pw_or (pt_not (pt_chain op_le op_le pe_int (pe_callB (r := fun xs H Q => ∃ x n, xs = [x] ∧ LenV K x H n ∧ Q (.int n) H) call_len (by rfl) (T.free "len" (by decide +kernel)) (by decide +kernel) (pa_cons (pv 1) pa_nil)) (pe_gint (T.int ("MOST_DIGITS", 61) (by decide +kernel))))) (pw_or1 (pt_not (pt_val (pe_callB (r := rAll K) (cr_all rfl) (by rfl) (T.free "all" (by decide +kernel)) (by decide +kernel) (pa_cons (pe_lc (own := [("sign", 2)]) (g := (gName 2)) (tt := tYes) rfl sc_number_in.nd (pi_str (pv 1)) (blkOk_by (own := [("sign", 2)]) (N := ["word", "digits", "sign"]) (sc := defScope s_number_in) (by decide +kernel)) (fun _ _ _ _ _ => (pg_name (i := 2) sc_number_in.nd rfl (by first | exact Or.inl rfl | exact Or.inr rfl))) (fun _ _ _ _ _ => pts_nil) (fun _ _ _ _ _ => (pe_cmpR (op_in_sign) (pv 2) (pe_gstr (T.str ("DIGITS", "0123456789") (by decide +kernel))) rfl))) pa_nil))))))) (pss_one (ps_ret pe_non)) pss_nil)
    (pss_cutK (ps_if (PW.pt (pw_and (pt_cmpR (op_eq) (pe_ix ix_str (pv 1) pe_int (fun _ _ => rfl)) pe_str (nomark _)) (pw_and1 (pt_cmpR (op_ne) (pv 0) pe_str (nomark _))))) (pss_one (ps_ret pe_non)) pss_nil)
    (pss_one (ps_ret (pe_callTy call_int_str (by rfl) (T.free "int" (by decide +kernel)) (by decide +kernel) (pa_cons (pv 0) pa_nil)))))), ?_⟩
  have zl := line_big
  refine cutI (fun σ H' => H' = H ∧ ∃ D x2, σ = [some (.str (S L)), some (.str (S D)), x2] ∧ ((∃ i, L = numC i ∧ smallI i ∧ D = TL.numL i.natAbs) ∨ (nameB (S L) = true ∧ D = L))) ?_ ?_
  · have hlen : L.length ≤ 62 := by
      rcases h with ⟨i, rfl, hi, _⟩ | ⟨hn, _⟩
      · exact (numC_len hi).1
      · have := name_S hn; omega
    walk_at "wp"
    refine ⟨S L, rfl, by rw [S_len]; omega, ?_⟩
    rw [show (some (1 : Int)) = some ((1 : Nat) : Int) from rfl, cutS_to]
    refine ⟨rfl, ite2 (fun c => ?_) (fun c => ?_)⟩
    · have c' : S (L.take 1) = S [45] := V.str.inj (of_decide_eq_true c)
      have c2 := S_inj c'
      refine ⟨S L, rfl, by rw [S_len]; omega, rfl, L.drop 1, by rw [cutS_from], ?_⟩
      rcases h with ⟨i, rfl, hi, _⟩ | ⟨hn, _⟩
      · refine .inl ⟨i, rfl, hi, ?_⟩
        unfold numC at c2 ⊢
        by_cases z : i < 0
        · rw [if_pos z]; rfl
        · rw [if_neg z] at c2
          cases e : TL.numL i.natAbs with
          | nil => exact absurd e (TL.numL_ne _)
          | cons a r =>
            rw [e] at c2
            have ha := TL.numL_digits i.natAbs a (by rw [e]; exact List.mem_cons_self)
            have : a = 45 := (List.cons.inj c2).1
            omega
      · obtain ⟨n1, n2, n3⟩ := name_S hn
        cases L with
        | nil => simp at n1
        | cons a r =>
          have := n3 a List.mem_cons_self
          have : a = 45 := (List.cons.inj c2).1
          omega
    · refine ⟨rfl, L, rfl, ?_⟩
      rcases h with ⟨i, rfl, hi, _⟩ | ⟨hn, _⟩
      · refine .inl ⟨i, rfl, hi, ?_⟩
        unfold numC at c ⊢
        by_cases z : i < 0
        · rw [if_pos z] at c
          exact absurd (decide_eq_true rfl) c
        · rw [if_neg z]
      · exact .inr ⟨hn, rfl⟩
  rintro σ H1 ⟨rfl, D, x2, rfl, hD⟩
  have hlD : 1 ≤ D.length ∧ D.length ≤ 61 := by
    rcases hD with ⟨i, _, hi, rfl⟩ | ⟨hn, rfl⟩
    · have := numC_len hi; omega
    · have := name_S hn; omega
  walk_at "st"
  refine ⟨D.length, ⟨by rw [S_len]; omega, by rw [S_len]⟩, iteTb (by simp; omega) (iteFb (by simp; omega) ?_)⟩
  refine lcGo (walk_str (z := S D)) (fun i acc _ => acc = (D.take i).map fun c => V.bl (digitC c)) (fun _ _ => rfl) (fun _ _ => trivial) ?_ ?_
  · rintro E0' i x acc H2 H3 nD hi s2 eD la ra ⟨eH, c, ec, rfl⟩
    subst eH
    have ec' : D[i]? = some c := by rw [← ec]; simp
    walk_at "wp"
    refine ⟨c, rfl, acc, eD, ?_, .step nD s2 la ?_⟩
    · have : i < D.length := (List.getElem?_eq_some_iff.mp ec').1
      omega
    show acc ++ _ = _
    rw [ra, List.take_add_one, ec', List.map_append]
    rfl
  rintro E0' acc H2 nD s2 eD la ra
  have ld : (S D).cps.size = D.length := by simp
  rw [ld, List.take_of_length_le (Nat.le_refl _)] at ra
  refine ⟨E0', D.map digitC, rfl, .of (by rw [eD, ra, List.map_map]; rfl), _, rfl, ?_⟩
  rcases h with ⟨i, rfl, hi, q⟩ | ⟨hn, q⟩
  · have eD2 : D = TL.numL i.natAbs := by
      rcases hD with ⟨i', e, hi', rfl⟩ | ⟨hn, _⟩
      · have e2 := congrArg (fun l => intText? (S l)) e
        simp only [numC_val hi, numC_val hi'] at e2
        rw [Option.some.inj e2]
      · exact (num_not_name hn).elim
    have hall : (D.map digitC).all id = true := by
      rw [List.all_eq_true]
      intro b hb
      obtain ⟨c, hc, rfl⟩ := List.mem_map.mp hb
      rw [eD2] at hc
      exact digitC_of (TL.numL_digits _ c hc)
    refine iteFb (by rw [hall]; rfl) ?_
    refine cutI (fun σ H' => H' = H2 ∧ ∃ x1 x2, σ = [some (V.str (S (numC i))), x1, x2]) ?_ ?_
    · have l0 : D[0]? = some (D[0]'(by omega)) := List.getElem?_eq_getElem (by omega)
      walk_at "wp"
      refine ⟨S D, 0, D[0]'(by omega), rfl, rfl, by rw [S_len]; omega, atI_nat (j := 0) (by rw [← l0]), ?_⟩
      refine ⟨rfl, ite2 (fun c => ?_) (fun c => ⟨rfl, _, rfl⟩)⟩
      have c' : S [D[0]'(by omega)] = S [48] := V.str.inj (of_decide_eq_true c)
      have c2 : D[0]'(by omega) = 48 := (List.cons.inj (S_inj c')).1
      have i0 : i.natAbs = 0 := by
        cases e : D with
        | nil => rw [e] at hlD; simp at hlD
        | cons d r =>
          simp only [e, List.getElem_cons_zero] at c2
          exact numL_pos _ r (by rw [← eD2, e, c2])
      have i1 : i = 0 := by omega
      subst i1
      exact ⟨rfl, iteFb (by decide +kernel) ⟨rfl, _, rfl⟩⟩
    · rintro σ' H3 ⟨rfl, x1, x3, rfl⟩
      walk_at "wp"
      refine ⟨i, numC_val hi, by rw [S_len]; have := numC_len hi; omega, q H3 s2⟩
  · have eD2 : D = L := by
      rcases hD with ⟨i', rfl, hi', rfl⟩ | ⟨_, rfl⟩
      · exact (num_not_name hn).elim
      · rfl
    obtain ⟨n1, n2, n3⟩ := name_S hn
    have hall : (D.map digitC).all id = false := by
      rw [eD2]
      cases L with
      | nil => simp at n1
      | cons c r =>
        have := n3 c List.mem_cons_self
        rw [List.map_cons, List.all_cons, digitC_not this.1]
        rfl
    exact iteTb (by rw [hall]; rfl) (q H2 s2)
end
end K91
set_option Elab.async false
set_option linter.all false
set_option maxRecDepth 100000
set_option maxHeartbeats 8000000
namespace K91
open PySem PySem.Spec PyProof.Rows L2 _root_.SX PySem.NumText
local macro_rules | `(tactic| walk_at "wp") => `(tactic| try simp only [cxK, cxw, cxK', cxw', start1, start2, start3, start4, start5, tRet, tRetN, tAsg, gName, gTup, gCons, gNil, gSub, tDrop, tNext, tIfS, tIf, tVar, tC, tAndV, tOrV, tNotV, tAnd, tOr, tNot, tTest, tB, tCB, tCons, tNil, tOp, tUn, rI0, rI, rU, rEq, rNe, rIn, tChain, tFld, sFld, tSl, tPart, tNoPart, tTup, tLst, tCallR, tMethR, tMethO, tBM, tBM0, tM0, tM1, tDGet, tDIn, tDNotIn, tDNewK, tCmp, t2I, tIsN, tNotN, tYes, tLc_eq, tFor_eq, tLenSetN, iItems, iVals, iKeys, iRng1, tLock, tLockE, tCallKw, tMakeKw, tMethKw, StX.tMakeR, tDc_eq, tLc2_eq, sFldAug, rMulS, tListVals, LiI.tListItems, LiI.rItemsL, RZ.iZipA, iStr, iTup, iList, iEnum, iEnumT, tDGet1, tDGet2, tDisp, tPairs, wipe, List.map_cons, List.map_nil,
  List.length_cons, List.length_nil, Nat.reduceAdd, Nat.reduceSub, List.replicate_succ, List.replicate_zero, if_true, if_false, Bool.not_true, Bool.not_false, Bool.false_eq_true, reduceIte,
  List.set_cons_zero, List.set_cons_succ, List.getElem?_cons_zero, List.getElem?_cons_succ, Option.some.injEq, exists_eq_left', exists_eq_left, V.int.injEq, V.str.injEq, V.bl.injEq, V.ref.injEq, V.ty.injEq, List.cons.injEq, and_true, true_and, and_assoc, exists_and_left, List.nil_append, List.cons_append, List.append_nil])
local macro_rules | `(tactic| walk_at "st") => `(tactic| (refine sq ?_; walk_at "wp"))
section
variable {P : Program} {w : World} {K : PySem.W.Frag} {mg : Str → Option Value} {base : Heap}
def RowAt (K : PySem.W.Frag) (H : Hp) (p : Addr) (L : List Nat) (a : Nat) : Prop := L.length ≤ 100000 ∧ ∃ dx, H p = some (.ins (He.ga K "Row") dx [("text", .str (S L)), ("at", .int (a : Nat)), ("has_failed", .bl false)])
theorem RowAt.same {H H' : Hp} {p : Addr} {L : List Nat} {a : Nat} (h : RowAt K H p L a) (s : Same H H') : RowAt K H' p L a := by
  obtain ⟨l, dx, e⟩ := h
  exact ⟨l, dx, s _ _ e⟩
def ROWF : List Str := ["text", "at", "has_failed"]
theorem rowf {f : Str} (h : f ∈ ROWF) : (("Row", f) : Str × Str) ∈ kNoat := by
  have e : ROWF.all (fun f => decide ((("Row", f) : Str × Str) ∈ kNoat)) = true := by decide +kernel
  exact of_decide_eq_true (List.all_eq_true.mp e f h)
def spRowInit (K : PySem.W.Frag) : Sp := fun vs H Q _ => ∃ p dx x, vs = [.ref p, x] ∧ H p = some (.ins (He.ga K "Row") dx []) ∧ ∀ H', SameX p H H' → H' p = some (.ins (He.ga K "Row") dx [("text", x), ("at", .int 0), ("has_failed", .bl false)]) → Q .non H'
theorem ok_Row___init__ (T : Top K mg w)  : FnR P w K mg base CX0 1 (He.ma K (He.ga K "Row") "__init__") (spRowInit K) := by
  obtain ⟨fd, F⟩ := T.def_ d_Row___init__ (List.mem_of_getElem? (i := 32) rfl)
  refine mkR F sc_Row___init__ (fun _ _ _ _ _ _ us hl => match us, hl with | [_, _], _ => rfl) (fun vs H Q E h => ?_) (fun cdv A outer s H vs Q E hr h => ?_)
  · obtain ⟨p, dx, x, rfl, _⟩ := h; rfl
  obtain ⟨p, dx, x, rfl, hp, q⟩ := h
  refine ⟨_, pss_cons (ps_fld (pv 0) (pv 1) rfl)
    (pss_cons (ps_fld (pv 0) pe_int rfl)
    (pss_one (ps_fld (pv 0) pe_bl rfl))), ?_⟩
  have c := (T.cls "Row" (by decide +kernel)).1
  walk_at "st"
  refine fput hp c (T.noat ("Row", "text") (by decide +kernel)) (fs' := [("text", x)]) rfl (by decide) ?_
  walk_at "st"
  refine ⟨_, dx, _, upd_same, c, T.noat ("Row", "at") (by decide +kernel), by simp, ?_⟩
  refine ⟨_, dx, _, upd_same, c, T.noat ("Row", "has_failed") (by decide +kernel), Nat.lt_of_le_of_lt put_le (by simp), q _ ?_ (by rw [upd_same]; rfl)⟩
  exact ((SameX.put _).trans (.put _)).trans (.put _)
theorem take_one {L : List Nat} {a c : Nat} (h : L[a]? = some c) : (L.drop a).take 1 = [c] := by
  obtain ⟨ha, e⟩ := List.getElem?_eq_some_iff.mp h
  rw [List.drop_eq_getElem_cons ha, e]
  rfl
def spSkip (K : PySem.W.Frag) : Sp := fun vs H Q _ => ∃ p L a c, vs = [.ref p, .str (S [c])] ∧ RowAt K H p L a ∧ L[a]? = some c ∧ ∀ H', SX p H H' → RowAt K H' p L (a + 1) → Q .non H'
theorem ok_Row_skip (T : Top K mg w)  : FnR P w K mg base CX0 1 (He.ma K (He.ga K "Row") "skip") (spSkip K) := by
  obtain ⟨fd, F⟩ := T.def_ d_Row_skip (List.mem_of_getElem? (i := 33) rfl)
  refine mkR F sc_Row_skip (fun _ _ _ _ _ _ us hl => match us, hl with | [_, _], _ => rfl) (fun vs H Q E h => ?_) (fun cdv A outer s H vs Q E hr h => ?_)
  · obtain ⟨p, L, a, c, rfl, _⟩ := h; rfl
  obtain ⟨p, L, a, ch, rfl, ⟨hl, dx, hp⟩, hc, q⟩ := h
  refine ⟨_, pss_one (ps_if (pt_cmpR (op_eq) (pe_slice sl_str (pe_fld (pv 0) rfl) (po_some (pe_fld (pv 0) rfl)) (po_some (pe_op op_add (pe_fld (pv 0) rfl) pe_int))) (pv 1) (nomark _)) (pss_one (ps_fldaug (pv 0) pe_int in_add)) (pss_one (ps_fld (pv 0) pe_bl rfl))), ?_⟩
  have zl := line_big
  have c := (T.cls "Row" (by decide +kernel)).1
  have cn (f : Str) (hf : f ∈ ROWF) : NoAttr K (He.ga K "Row") f := T.noat ("Row", f) (rowf hf)
  walk_at "wp"
  refine fldw hp c (cn "text" (by decide)) rfl (fldw hp c (cn "at" (by decide)) rfl ⟨_, rfl, fldw hp c (cn "at" (by decide)) rfl ⟨_, rfl, S L, rfl, by rw [S_len]; omega, ?_⟩⟩)
  have ha : a < L.length := (List.getElem?_eq_some_iff.mp hc).1
  have e1 : ((a : Int) + 1) = ((a + 1 : Nat) : Int) := by omega
  rw [e1, cutS_mid, show a + 1 - a = 1 by omega, take_one hc]
  refine ⟨rfl, iteTb (decide_eq_true rfl) ⟨_, dx, _, hp, c, cn "at" (by decide), _, rfl, _, _, rfl, rfl, dx, _, hp, Nat.lt_of_sub_eq_succ rfl, q _ (.put hp _) ⟨hl, dx, by rw [upd_same]; rfl⟩⟩⟩
theorem sp_not {c : Nat} (h : c ≠ 32 ∧ c ≠ 40 ∧ c ≠ 41) : decide (c ∈ (Str.ofString " ()").cps.toList) = false := by
  refine decide_eq_false fun m => ?_
  have z : ∀ c ∈ (Str.ofString " ()").cps.toList, c = 32 ∨ c = 40 ∨ c = 41 := by decide +kernel
  have := z c m
  omega
theorem sp_in {c : Nat} (h : c = 32 ∨ c = 40 ∨ c = 41) : decide (c ∈ (Str.ofString " ()").cps.toList) = true := by
  rcases h with rfl | rfl | rfl <;> decide +kernel
def spNextWord (K : PySem.W.Frag) : Sp := fun vs H Q _ => ∃ p, ∃ pre wd post : List Nat, vs = [.ref p] ∧ RowAt K H p (pre ++ wd ++ post) pre.length ∧ (∀ c ∈ wd, c ≠ 32 ∧ c ≠ 40 ∧ c ≠ 41) ∧ (∀ c r, post = c :: r → c = 32 ∨ c = 40 ∨ c = 41) ∧ ∀ H', SX p H H' → RowAt K H' p (pre ++ wd ++ post) (pre ++ wd).length → Q (.str (S wd)) H'
theorem ok_Row_next_word (T : Top K mg w)  : FnR P w K mg base CX0 1 (He.ma K (He.ga K "Row") "next_word") (spNextWord K) := by
  obtain ⟨fd, F⟩ := T.def_ d_Row_next_word (List.mem_of_getElem? (i := 34) rfl)
  refine mkR F sc_Row_next_word (fun _ _ _ _ _ _ us hl => match us, hl with | [_], _ => rfl) (fun vs H Q E h => ?_) (fun cdv A outer s H vs Q E hr h => ?_)
  · obtain ⟨p, pre, wd, post, rfl, _⟩ := h; rfl
  obtain ⟨p, pre, wd, post, rfl, ⟨hl, dx, hp⟩, hw, hpost, q⟩ := h
  refine ⟨_, pss_cons (ps_set (i := 1) sc_Row_next_word.nd rfl (by first | exact Or.inl rfl | exact Or.inr rfl) (pe_fld (pv 0) rfl))
    (pss_cons (ps_while PassesOwn.never (PW.pt (pw_and (pt_cmpR (op_lt) (pe_fld (pv 0) rfl) (pe_callB (r := fun xs H Q => ∃ x n, xs = [x] ∧ LenV K x H n ∧ Q (.int n) H) call_len (by rfl) (T.free "len" (by decide +kernel)) (by decide +kernel) (pa_cons (pe_fld (pv 0) rfl) pa_nil)) (nomark _)) (pw_and1 (pt_cmpR (op_notIn_sign) (pe_ix ix_str (pe_fld (pv 0) rfl) (pe_fld (pv 0) rfl) (fun _ _ => rfl)) pe_str rfl))))
    (pss_one (ps_fldaug (pv 0) pe_int in_add)))
    (pss_one (ps_ret (pe_slice sl_str (pe_fld (pv 0) rfl) (po_some (pv 1)) (po_some (pe_fld (pv 0) rfl)))))), ?_⟩
  have zl := line_big
  have c := (T.cls "Row" (by decide +kernel)).1
  have cn (f : Str) (hf : f ∈ ROWF) : NoAttr K (He.ga K "Row") f := T.noat ("Row", f) (rowf hf)
  walk_at "st"
  refine fldw hp c (cn "at" (by decide)) rfl ?_
  walk_at "st"
  refine ⟨fun m σ H' => ∃ k, σ = [some (V.ref p), some (V.int (pre.length : Nat))] ∧ k ≤ wd.length ∧ m = wd.length - k ∧ SX p H H' ∧ H' p = some (.ins (He.ga K "Row") dx [("text", .str (S (pre ++ wd ++ post))), ("at", .int ((pre.length + k : Nat) : Int)), ("has_failed", .bl false)]), ⟨wd.length, 0, rfl, Nat.zero_le _, rfl, .of (.refl _), hp⟩, ?_⟩
  rintro m σ H1 ⟨k, rfl, hk, rfl, s1, hp1⟩
  walk_at "wp"
  refine fldw hp1 c (cn "at" (by decide)) rfl (fldw hp1 c (cn "text" (by decide)) rfl ⟨(pre ++ wd ++ post).length, ⟨by rw [S_len]; omega, by rw [S_len]⟩, _, rfl, ?_⟩)
  have fin : k = wd.length → ∃ x x_1 x_2, H1 p = some (HO.ins x x_1 x_2) ∧ Cls K x ∧ NoAttr K x (Str.ofString "text") ∧ ∃ x, List.lookup (Str.ofString "text") x_2 = some x ∧ ∃ x_3 x_4 x_5, H1 p = some (HO.ins x_3 x_4 x_5) ∧ Cls K x_3 ∧ NoAttr K x_3 (Str.ofString "at") ∧
      ∃ x_6, List.lookup (Str.ofString "at") x_5 = some x_6 ∧ ∃ i, x_6 = V.int i ∧ rSlS x (some (pre.length : Int)) (some i) H1 Q := fun ek => by
    refine fldw hp1 c (cn "text" (by decide)) rfl (fldw hp1 c (cn "at" (by decide)) rfl ⟨_, rfl, S (pre ++ wd ++ post), rfl, by rw [S_len]; omega, ?_⟩)
    rw [cutS_mid, Nat.add_sub_cancel_left, List.append_assoc, List.drop_left, ek, List.take_left]
    refine q H1 s1 ⟨hl, dx, ?_⟩
    rw [hp1, List.length_append, ek]
  have hll : (pre ++ wd ++ post).length = pre.length + wd.length + post.length := by simp only [List.length_append]
  by_cases hk2 : k < wd.length
  · have ec : (pre ++ wd ++ post)[pre.length + k]? = some (wd[k]'hk2) := by
      rw [List.append_assoc, List.getElem?_append_right (by omega), Nat.add_sub_cancel_left, List.getElem?_append_left hk2]
      exact List.getElem?_eq_getElem hk2
    have hcw := hw _ (List.getElem_mem hk2)
    generalize wd[k]'hk2 = ch at ec hcw
    refine iteTb (by rw [hll]; simp; omega) (fldw hp1 c (cn "text" (by decide)) rfl (fldw hp1 c (cn "at" (by decide)) rfl ⟨S (pre ++ wd ++ post), _, ch, rfl, rfl, by rw [S_len]; omega, atI_nat ec, ch, rfl, ?_⟩))
    refine iteTb (by rw [sp_not hcw]; rfl) ⟨fun σ' H' => σ' = [some (V.ref p), some (V.int (pre.length : Nat))] ∧ SX p H H' ∧ H' p = some (.ins (He.ga K "Row") dx [("text", .str (S (pre ++ wd ++ post))), ("at", .int ((pre.length + (k + 1) : Nat) : Int)), ("has_failed", .bl false)]), fun σ' H' ⟨e1, e2, e3⟩ => ⟨wd.length - (k + 1), by omega, e1, k + 1, hk2, rfl, e2, e3⟩, ?_⟩
    refine ⟨_, dx, _, hp1, c, cn "at" (by decide), _, rfl, _, _, rfl, rfl, dx, _, hp1, Nat.lt_of_sub_eq_succ rfl, rfl, s1.trans (.put hp1 _), by rw [upd_same]; rfl⟩
  · have ek : k = wd.length := by omega
    cases ep : post with
    | nil =>
      rw [ep] at hll
      exact iteFb (by rw [← ep, ep, hll]; simp; omega) (fin ek)
    | cons ch r =>
      rw [ep] at hll
      have ec : (pre ++ wd ++ post)[pre.length + k]? = some ch := by
        rw [ep, ek, List.getElem?_append_right (by rw [List.length_append]; omega), List.length_append, Nat.sub_self]
        rfl
      rw [← ep]
      rw [← ep] at hll
      have lp : post.length = r.length + 1 := by rw [ep]; rfl
      refine iteTb (by rw [hll]; simp; omega) (fldw hp1 c (cn "text" (by decide)) rfl (fldw hp1 c (cn "at" (by decide)) rfl ⟨S (pre ++ wd ++ post), _, ch, rfl, rfl, by rw [S_len]; omega, atI_nat ec, ch, rfl, ?_⟩))
      exact iteFb (by rw [sp_in (hpost ch r ep)]; rfl) (fin ek)
def stopP (post : List Nat) : Prop := ∀ c r, post = c :: r → c = 32 ∨ c = 40 ∨ c = 41
theorem word_free {L : List Nat} (h : nameB (S L) = true) : ∀ c ∈ L, c ≠ 32 ∧ c ≠ 40 ∧ c ≠ 41 := fun c hc => by
  have := (name_S h).2.2 c hc
  omega
theorem num_free {i : Int} : ∀ c ∈ numC i, c ≠ 32 ∧ c ≠ 40 ∧ c ≠ 41 := fun c hc => by
  have hd := TL.numL_digits i.natAbs
  unfold numC at hc
  by_cases z : i < 0
  · rw [if_pos z] at hc
    rcases List.mem_cons.mp hc with rfl | hc
    · decide
    · have := hd c hc; omega
  · rw [if_neg z] at hc
    have := hd c hc
    omega
def spNextName (K : PySem.W.Frag) : Sp := fun vs H Q _ => ∃ p, ∃ pre wd post : List Nat, vs = [.ref p] ∧ RowAt K H p (pre ++ wd ++ post) pre.length ∧ nameB (S wd) = true ∧ stopP post ∧ ∀ H', SX p H H' → RowAt K H' p (pre ++ wd ++ post) (pre ++ wd).length → Q (.str (S wd)) H'
theorem ok_Row_next_name (T : Top K mg w)  : FnR P w K mg base CX0 3 (He.ma K (He.ga K "Row") "next_name") (spNextName K) := by
  obtain ⟨fd, F⟩ := T.def_ d_Row_next_name (List.mem_of_getElem? (i := 35) rfl)
  refine mkR F sc_Row_next_name (fun _ _ _ _ _ _ us hl => match us, hl with | [_], _ => rfl) (fun vs H Q E h => ?_) (fun cdv A outer s H vs Q E hr h => ?_)
  · obtain ⟨p, pre, wd, post, rfl, _⟩ := h; rfl
  obtain ⟨p, pre, wd, post, rfl, hr1, hn, hpost, q⟩ := h
  have G_Row_next_word := ok_Row_next_word (P := P) (w := w) (base := base) T
  have G_is_name := ok_is_name (P := P) (w := w) (base := base) T
  refine ⟨_, pss_cons (ps_set (i := 1) sc_Row_next_name.nd rfl (by first | exact Or.inl rfl | exact Or.inr rfl) (pmeth0' (T.cls "Row" (by decide +kernel)).1 (T.meth ("Row", "next_word") (by decide +kernel)) G_Row_next_word hr (pv 0)))
    (pss_cons (ps_fld (pv 0) (pe_or (pe_fld (pv 0) rfl) (pe_one (pe_not (pcall G_is_name hr (T.glo "is_name" (by decide +kernel)) (pa_cons (pv 1) pa_nil))))) rfl)
    (pss_one (ps_ret (pv 1)))), ?_⟩
  have zl := line_big
  have c := (T.cls "Row" (by decide +kernel)).1
  have cn (f : Str) (hf : f ∈ ROWF) : NoAttr K (He.ga K "Row") f := T.noat ("Row", f) (rowf hf)
  have hr0 := hr1
  obtain ⟨hl, dx, hp⟩ := hr1
  have nl := name_S hn
  walk_at "st"
  refine ⟨dx, _, hp, rfl, p, pre, wd, post, rfl, hr0, word_free hn, hpost, fun H1 s1 hr2 => ?_⟩
  obtain ⟨_, dx2, hp2⟩ := hr2
  walk_at "st"
  refine fldw hp2 c (cn "has_failed" (by decide)) rfl ⟨false, rfl, iteFb rfl ⟨_, _, rfl, .str (S wd) (by rw [S_len]; omega), fun H2 s2 => ⟨_, rfl, _, dx2, _, s2 _ _ hp2, c, cn "has_failed" (by decide), Nat.lt_of_sub_eq_succ rfl, q _ ((s1.trans (.of s2)).trans (.put (s2 _ _ hp2) _)) ⟨hl, dx2, ?_⟩⟩⟩⟩
  have e : isNameD (.str (S wd)) = true := hn
  rw [upd_same, e]
  rfl
def spNextNumber (K : PySem.W.Frag) : Sp := fun vs H Q _ => ∃ p, ∃ pre post : List Nat, ∃ i : Int, vs = [.ref p] ∧ RowAt K H p (pre ++ numC i ++ post) pre.length ∧ smallI i ∧ stopP post ∧ ∀ H', SX p H H' → RowAt K H' p (pre ++ numC i ++ post) (pre ++ numC i).length → Q (.int i) H'
theorem ok_Row_next_number (T : Top K mg w)  : FnR P w K mg base CX0 3 (He.ma K (He.ga K "Row") "next_number") (spNextNumber K) := by
  obtain ⟨fd, F⟩ := T.def_ d_Row_next_number (List.mem_of_getElem? (i := 36) rfl)
  refine mkR F sc_Row_next_number (fun _ _ _ _ _ _ us hl => match us, hl with | [_], _ => rfl) (fun vs H Q E h => ?_) (fun cdv A outer s H vs Q E hr h => ?_)
  · obtain ⟨p, pre, post, i, rfl, _⟩ := h; rfl
  obtain ⟨p, pre, post, i, rfl, hr1, hi, hpost, q⟩ := h
  have G_Row_next_word := ok_Row_next_word (P := P) (w := w) (base := base) T
  have G_number_in := ok_number_in (P := P) (w := w) (base := base) T
  refine ⟨_, pss_cons (ps_set (i := 1) sc_Row_next_number.nd rfl (by first | exact Or.inl rfl | exact Or.inr rfl) (pcall G_number_in hr (T.glo "number_in" (by decide +kernel)) (pa_cons (pmeth0' (T.cls "Row" (by decide +kernel)).1 (T.meth ("Row", "next_word") (by decide +kernel)) G_Row_next_word hr (pv 0)) pa_nil)))
    (pss_cons (ps_fld (pv 0) (pe_or (pe_fld (pv 0) rfl) (pe_one (pe_cmpR (op_isN) (pv 1) pe_non (nomark _)))) rfl)
    (pss_one (ps_ret (pv 1)))), ?_⟩
  have zl := line_big
  have c := (T.cls "Row" (by decide +kernel)).1
  have cn (f : Str) (hf : f ∈ ROWF) : NoAttr K (He.ga K "Row") f := T.noat ("Row", f) (rowf hf)
  have hr0 := hr1
  obtain ⟨hl, dx, hp⟩ := hr1
  walk_at "st"
  refine ⟨dx, _, hp, rfl, p, pre, numC i, post, rfl, hr0, num_free, hpost, fun H1 s1 hr2 => ?_⟩
  obtain ⟨_, dx2, hp2⟩ := hr2
  refine ⟨numC i, rfl, .inl ⟨i, rfl, hi, fun H2 s2 => ?_⟩⟩
  have hp3 := s2 _ _ hp2
  walk_at "st"
  refine fldw hp3 c (cn "has_failed" (by decide)) rfl ⟨false, rfl, iteFb rfl ⟨_, dx2, _, hp3, c, cn "has_failed" (by decide), Nat.lt_of_sub_eq_succ rfl, q _ ((s1.trans (.of s2)).trans (.put hp3 _)) ⟨hl, dx2, ?_⟩⟩⟩
  rw [upd_same]
  rfl
end
end K91
set_option Elab.async false
set_option linter.all false
set_option maxRecDepth 100000
set_option maxHeartbeats 8000000
namespace K91
open PySem PySem.Spec PyProof.Rows L2 _root_.SX PySem.NumText
local macro_rules | `(tactic| walk_at "wp") => `(tactic| try simp only [cxK, cxw, cxK', cxw', start1, start2, start3, start4, start5, tRet, tRetN, tAsg, gName, gTup, gCons, gNil, gSub, tDrop, tNext, tIfS, tIf, tVar, tC, tAndV, tOrV, tNotV, tAnd, tOr, tNot, tTest, tB, tCB, tCons, tNil, tOp, tUn, rI0, rI, rU, rEq, rNe, rIn, tChain, tFld, sFld, tSl, tPart, tNoPart, tTup, tLst, tCallR, tMethR, tMethO, tBM, tBM0, tM0, tM1, tDGet, tDIn, tDNotIn, tDNewK, tCmp, t2I, tIsN, tNotN, tYes, tLc_eq, tFor_eq, tLenSetN, iItems, iVals, iKeys, iRng1, tLock, tLockE, tCallKw, tMakeKw, tMethKw, StX.tMakeR, tDc_eq, tLc2_eq, sFldAug, rMulS, tListVals, LiI.tListItems, LiI.rItemsL, RZ.iZipA, iStr, iTup, iList, iEnum, iEnumT, tDGet1, tDGet2, tDisp, tPairs, wipe, List.map_cons, List.map_nil,
  List.length_cons, List.length_nil, Nat.reduceAdd, Nat.reduceSub, List.replicate_succ, List.replicate_zero, if_true, if_false, Bool.not_true, Bool.not_false, Bool.false_eq_true, reduceIte,
  List.set_cons_zero, List.set_cons_succ, List.getElem?_cons_zero, List.getElem?_cons_succ, Option.some.injEq, exists_eq_left', exists_eq_left, V.int.injEq, V.str.injEq, V.bl.injEq, V.ref.injEq, V.ty.injEq, List.cons.injEq, and_true, true_and, and_assoc, exists_and_left, List.nil_append, List.cons_append, List.append_nil])
local macro_rules | `(tactic| walk_at "st") => `(tactic| (refine sq ?_; walk_at "wp"))
section
variable {P : Program} {w : World} {K : PySem.W.Frag} {mg : Str → Option Value} {base : Heap}
/-- data that is read back -/
def exprP : Nat → PyData → Bool
  | _, .int i => decide (i.natAbs ≤ 1000000000000000000000000000000000000000000000000000000000000)
  | _, .str x => nameB x
  | n + 1, .tuple [.str o, l, r] => ops.contains o && exprP n l && exprP n r
  | _, _ => false
theorem exprP_tup {n : Nat} {ds : List PyData} (h : exprP n (.tuple ds) = true) : ∃ m o l r, n = m + 1 ∧ ds = [.str o, l, r] ∧ ops.contains o = true ∧ exprP m l = true ∧ exprP m r = true := by
  unfold exprP at h
  split at h
  · rename_i e; cases e
  · rename_i e; cases e
  · rename_i m o l r e
    cases e
    rw [Bool.and_eq_true, Bool.and_eq_true] at h
    exact ⟨m, o, l, r, rfl, rfl, h.1.1, h.1.2, h.2⟩
  · cases h
theorem exprP_kind {n : Nat} {d : PyData} (h : exprP n d = true) : (∃ i, d = .int i ∧ smallI i) ∨ (∃ x, d = .str x ∧ nameB x = true) ∨ ∃ ds, d = .tuple ds := by
  unfold exprP at h
  split at h
  · exact .inl ⟨_, rfl, by unfold smallI; exact of_decide_eq_true h⟩
  · exact .inr (.inl ⟨_, rfl, h⟩)
  · exact .inr (.inr ⟨_, rfl⟩)
  · cases h
def exprC (n : Nat) (d : PyData) : List Nat := (exprT n d).cps.toList
theorem exprC_int (n : Nat) (i : Int) : exprC n (.int i) = numC i := by
  unfold exprC
  rw [exprT_int, num_text]
theorem exprC_str (n : Nat) (x : Str) : exprC n (.str x) = x.cps.toList := by
  unfold exprC
  rw [exprT_str]
theorem cps_app (a b : Str) : (a ++ b).cps.toList = a.cps.toList ++ b.cps.toList := TL.tl_append a b
theorem exprC_tup (n : Nat) (o : Str) (l r : PyData) : exprC (n + 1) (.tuple [.str o, l, r]) = 40 :: (o.cps.toList ++ 32 :: (exprC n l ++ 32 :: (exprC n r ++ [41]))) := by
  show (Str.empty ++ "(" ++ o ++ " " ++ exprT n l ++ " " ++ exprT n r ++ ")").cps.toList = _
  rw [cps_app, cps_app, cps_app, cps_app, cps_app, cps_app, cps_app]
  have e1 : Str.empty.cps.toList = [] := rfl
  have e2 : (("(" : String) : Str).cps.toList = [40] := rfl
  have e3 : ((" " : String) : Str).cps.toList = [32] := rfl
  have e4 : ((")" : String) : Str).cps.toList = [41] := rfl
  rw [e1, e2, e3, e4]
  simp [exprC]
theorem op_word {o : Str} (h : ops.contains o = true) : nameB (S o.cps.toList) = true := by
  have z : ∀ x ∈ ops, nameB (S x.cps.toList) = true := by decide +kernel
  exact z o (by simpa using h)
/-- a word, or three parts in parentheses -/
theorem word_or {N : Nat} {d : PyData} (h : exprP N d = true) : (∃ wd, exprC N d = wd ∧ wd ≠ [] ∧ (∀ c ∈ wd, c ≠ 32 ∧ c ≠ 40 ∧ c ≠ 41) ∧ ((∃ i, d = .int i ∧ wd = numC i ∧ smallI i) ∨ (d = .str (S wd) ∧ nameB (S wd) = true))) ∨
    ∃ n o l r, N = n + 1 ∧ d = .tuple [.str o, l, r] ∧ ops.contains o = true ∧ exprP n l = true ∧ exprP n r = true := by
  rcases exprP_kind h with ⟨i, rfl, hi⟩ | ⟨x, rfl, hx⟩ | ⟨ds, rfl⟩
  · refine .inl ⟨numC i, exprC_int _ i, ?_, num_free, .inl ⟨i, rfl, rfl, hi⟩⟩
    intro e
    have := numC_len hi
    unfold numC at e
    by_cases z : i < 0
    · rw [if_pos z] at e; cases e
    · rw [if_neg z] at e; exact TL.numL_ne _ e
  · have e : S x.cps.toList = x := S_tl x
    have hn : nameB (S x.cps.toList) = true := by rw [e]; exact hx
    refine .inl ⟨x.cps.toList, exprC_str _ x, ?_, word_free hn, .inr ⟨by rw [e], hn⟩⟩
    intro z
    have := (name_S hn).1
    rw [z] at this
    simp at this
  · obtain ⟨m, o, l, r, e, rfl, h1, h2, h3⟩ := exprP_tup h
    exact .inr ⟨m, o, l, r, e, rfl, h1, h2, h3⟩
def spNextExpr (K : PySem.W.Frag) (n : Nat) : Sp := fun vs H Q _ => ∃ p, ∃ pre post : List Nat, ∃ d, ∃ nested : Nat, vs = [.ref p, .int nested] ∧ RowAt K H p (pre ++ exprC n d ++ post) pre.length ∧ exprP n d = true ∧ n + nested ≤ 50 ∧ stopP post ∧
  ∀ H' v, SX p H H' → RowAt K H' p (pre ++ exprC n d ++ post) (pre ++ exprC n d).length → Dt K H' v d → Q v H'
theorem SX.at {p lp : Addr} {H H' : Hp} (n : H lp = none) (s : SX p H H') (o : HO) : SX p H (upd H' lp o) := ⟨fun b u hb e => by
    have hn : b ≠ lp := by rintro rfl; rw [n] at e; cases e
    rw [upd_ne hn]
    exact s.x b u hb e, fun b xs h => by
    have hn : b ≠ lp := by
      rintro rfl
      rcases h with h | ⟨_, h⟩ <;> (rw [n] at h; cases h)
    rcases s.t b xs h with h | ⟨ob, h⟩
    · exact .inl (by rw [upd_ne hn]; exact h)
    · exact .inr ⟨ob, by rw [upd_ne hn]; exact h⟩⟩
/-- the loop over the parts: rest is to be read -/
def ExW (K : PySem.W.Frag) (n : Nat) (head : List V) (TT post : List Nat) (p lp : Addr) (ds : List PyData) (H : Hp) (σ0 : L2.St) (m : Nat) (σ : L2.St) (H' : Hp) : Prop := σ = σ0 ∧ ∃ prek rest done vs dx, TT = prek ++ (rest.flatMap (fun d => 32 :: exprC n d) ++ post) ∧ done ++ rest = ds ∧ m = rest.length ∧ SX p H H' ∧
  H' p = some (.ins (He.ga K "Row") dx [("text", .str (S TT)), ("at", .int (prek.length : Nat)), ("has_failed", .bl false)]) ∧ H' lp = some (.lst (head ++ vs)) ∧ DtAll K H' vs done
def spPrev (K : PySem.W.Frag) : Nat → Sp
  | 0 => fun _ _ _ _ => False
  | n + 1 => spNextExpr K n
theorem st_Row_next_expression (T : Top K mg w) {N M : Nat} (GK_Row_next_expression : FnK P w K mg base (M + 4) (He.ma K (He.ga K "Row") "next_expression") (spPrev K N) 1 ["nested"]) : FnR P w K mg base CX0 (M + 1 + 4) (He.ma K (He.ga K "Row") "next_expression") (fun vs H Q E => (spNextExpr K N) (vs ++ [(V.int 0)]) H Q E) ∧ FnK P w K mg base (M + 1 + 4) (He.ma K (He.ga K "Row") "next_expression") (spNextExpr K N) 1 ["nested"] := by
  obtain ⟨fd, F⟩ := T.def_ d_Row_next_expression (List.mem_of_getElem? (i := 37) rfl)
  refine mkD F sc_Row_next_expression rfl (fun _ _ _ _ _ _ us ws h1 h2 => match us, ws, h1, h2 with | [_], [_], _, _ => ⟨_, _, _, _, _, _, rfl, rfl, rfl⟩) (fun _ _ _ _ _ _ us ws h1 h2 => match us, ws, h1, h2 with | [_], [_], _, _ => rfl) (fun vs H Q E h => ?_) (fun cdv A outer s H vs Q E hr h => ?_)
  · obtain ⟨p, pre, post, d, nested, rfl, _⟩ := h; rfl
  obtain ⟨p, pre, post, d, nested, rfl, hr1, hd, hn, hpost, q⟩ := h
  have G_Row_next_word := ok_Row_next_word (P := P) (w := w) (base := base) T
  have G_Row_skip := ok_Row_skip (P := P) (w := w) (base := base) T
  have G_number_in := ok_number_in (P := P) (w := w) (base := base) T
  have G_is_name := ok_is_name (P := P) (w := w) (base := base) T
  refine ⟨_, pss_cons (ps_fld (pv 0) (pe_or (pe_fld (pv 0) rfl) (pe_one (pe_cmpR (op_gt) (pv 1) (pe_gint (T.int ("MOST_NESTED", 100) (by decide +kernel))) (nomark _)))) rfl)
    (pss_cons (ps_if (pt_cmpR (op_ne) (pe_slice sl_str (pe_fld (pv 0) rfl) (po_some (pe_fld (pv 0) rfl)) (po_some (pe_op op_add (pe_fld (pv 0) rfl) pe_int))) pe_str (nomark _)) (pss_cons (ps_set (i := 2) sc_Row_next_expression.nd rfl (by first | exact Or.inl rfl | exact Or.inr rfl) (pmeth0' (T.cls "Row" (by decide +kernel)).1 (T.meth ("Row", "next_word") (by decide +kernel)) G_Row_next_word hr (pv 0)))
    (pss_cons (ps_set (i := 3) sc_Row_next_expression.nd rfl (by first | exact Or.inl rfl | exact Or.inr rfl) (pcall G_number_in hr (T.glo "number_in" (by decide +kernel)) (pa_cons (pv 2) pa_nil)))
    (pss_cons (ps_fld (pv 0) (pe_or (pe_fld (pv 0) rfl) (pe_one (pe_and (pe_cmpR (op_isN) (pv 3) pe_non (nomark _)) (pe_one (pe_not (pcall G_is_name hr (T.glo "is_name" (by decide +kernel)) (pa_cons (pv 2) pa_nil))))))) rfl)
    (pss_one (ps_ret (pe_ifExp (pt_cmpR (op_isN) (pv 3) pe_non (nomark _)) (pv 2) (pv 3))))))) pss_nil)
    (pss_cons (ps_expr (pe_methR (pv 0) (T.cls "Row" (by decide +kernel)).1 (T.meth ("Row", "skip") (by decide +kernel)) G_Row_skip (hr.mono (by omega)) pass0 (pa_cons pe_str pa_nil)))
    (pss_cons (ps_set (i := 4) sc_Row_next_expression.nd rfl (by first | exact Or.inl rfl | exact Or.inr rfl) (pmeth0' (T.cls "Row" (by decide +kernel)).1 (T.meth ("Row", "next_word") (by decide +kernel)) G_Row_next_word hr (pv 0)))
    (pss_cons (ps_fld (pv 0) (pe_or (pe_fld (pv 0) rfl) (pe_one (pe_cmpR (r := rIn K true) op_notIn_seq (pv 4) (pe_gref (T.ref "OPERATORS" (by decide +kernel))) rfl))) rfl)
    (pss_cons (ps_set (i := 5) sc_Row_next_expression.nd rfl (by first | exact Or.inl rfl | exact Or.inr rfl) (pe_lst (pa_cons (pv 4) pa_nil)))
    (pss_cons (ps_while PassesOwn.never (PW.pt (pw_and (pt_cmpR (op_lt) (pe_callB (r := fun xs H Q => ∃ x n, xs = [x] ∧ LenV K x H n ∧ Q (.int n) H) call_len (by rfl) (T.free "len" (by decide +kernel)) (by decide +kernel) (pa_cons (pv 5) pa_nil)) pe_int (nomark _)) (pw_and1 (pt_not (pt_val (pe_fld (pv 0) rfl))))))
    (pss_cons (ps_expr (pe_methR (pv 0) (T.cls "Row" (by decide +kernel)).1 (T.meth ("Row", "skip") (by decide +kernel)) G_Row_skip (hr.mono (by omega)) pass0 (pa_cons pe_str pa_nil)))
    (pss_one (ps_expr (pe_bm PySem.F.plainAttrs_list PySem.F.slot_list_append PySem.F.type_list_append mt_append (pv 5) (pa_cons (pmethK0 (T.cls "Row" (by decide +kernel)).1 (T.meth ("Row", "next_expression") (by decide +kernel)) GK_Row_next_expression hr (pv 0) (pk_cons (pe_op op_add (pv 1) pe_int) pk_nil)) pa_nil))))))
    (pss_cons (ps_expr (pe_methR (pv 0) (T.cls "Row" (by decide +kernel)).1 (T.meth ("Row", "skip") (by decide +kernel)) G_Row_skip (hr.mono (by omega)) pass0 (pa_cons pe_str pa_nil)))
    (pss_one (ps_ret (pe_callTy call_tuple_of (by rfl) (T.free "tuple" (by decide +kernel)) (by decide +kernel) (pa_cons (pv 5) pa_nil))))))))))), ?_⟩
  have zl := line_big
  have c := (T.cls "Row" (by decide +kernel)).1
  have cn (f : Str) (hf : f ∈ ROWF) : NoAttr K (He.ga K "Row") f := T.noat ("Row", f) (rowf hf)
  obtain ⟨hl, dx, hp⟩ := hr1
  refine sq ?_
  walk_at "wp"
  refine fldw hp c (cn "has_failed" (by decide)) rfl ⟨false, rfl, iteFb rfl ?_⟩
  have hdec : decide ((100 : Int) < (nested : Int)) = false := decide_eq_false (by omega)
  refine fput hp c (cn "has_failed" (by decide)) (fs := [("text", .str (S (pre ++ exprC N d ++ post))), ("at", .int (pre.length : Nat)), ("has_failed", .bl false)]) (fs' := [("text", .str (S (pre ++ exprC N d ++ post))), ("at", .int (pre.length : Nat)), ("has_failed", .bl false)]) (by rw [hdec]; rfl) (by simp) ?_
  have X1 := SX.put hp (.ins (He.ga K "Row") dx [("text", .str (S (pre ++ exprC N d ++ post))), ("at", .int (pre.length : Nat)), ("has_failed", .bl false)])
  have hp1 : (upd H p (.ins (He.ga K "Row") dx [("text", .str (S (pre ++ exprC N d ++ post))), ("at", .int (pre.length : Nat)), ("has_failed", .bl false)])) p = some (.ins (He.ga K "Row") dx [("text", .str (S (pre ++ exprC N d ++ post))), ("at", .int (pre.length : Nat)), ("has_failed", .bl false)]) := upd_same
  generalize upd H p (.ins (He.ga K "Row") dx [("text", .str (S (pre ++ exprC N d ++ post))), ("at", .int (pre.length : Nat)), ("has_failed", .bl false)]) = H1 at X1 hp1 ⊢
  have e1 : ((pre.length : Int) + 1) = ((pre.length + 1 : Nat) : Int) := by omega
  refine sq ?_
  walk_at "wp"
  refine fldw hp1 c (cn "text" (by decide)) rfl (fldw hp1 c (cn "at" (by decide)) rfl ⟨_, rfl, fldw hp1 c (cn "at" (by decide)) rfl ⟨_, rfl, S (pre ++ exprC N d ++ post), rfl, by rw [S_len]; omega, ?_⟩⟩)
  rw [e1, cutS_mid, show pre.length + 1 - pre.length = 1 by omega]
  rcases word_or hd with ⟨wd, hwd, wne, wfree, hcase⟩ | ⟨n, o, l, r, rfl, rfl, ho, hdl, hdr⟩
  · obtain ⟨ch, rr, rfl⟩ : ∃ ch rr, wd = ch :: rr := by
      cases wd with
      | nil => exact absurd rfl wne
      | cons a b => exact ⟨a, b, rfl⟩
    have hch := wfree ch List.mem_cons_self
    rw [hwd] at hp1 hl q ⊢
    have ec : (pre ++ ch :: rr ++ post)[pre.length]? = some ch := by
      rw [List.append_assoc, List.getElem?_append_right (Nat.le_refl _), Nat.sub_self]
      rfl
    rw [take_one ec]
    refine ⟨rfl, iteTb ?_ ?_⟩
    · have : ¬ V.str (S [ch]) = V.str (Str.ofString "(") := fun z => hch.2.1 (List.cons.inj (S_inj (V.str.inj z : S [ch] = S [40]))).1
      rw [decide_eq_false this]
      rfl
    refine sq ?_
    walk_at "wp"
    refine ⟨dx, _, hp1, rfl, p, pre, ch :: rr, post, rfl, ⟨hl, dx, hp1⟩, wfree, hpost, fun H2 X2 hr2 => ?_⟩
    obtain ⟨_, dx2, hp2⟩ := hr2
    refine sq ?_
    walk_at "wp"
    refine ⟨ch :: rr, rfl, ?_⟩
    have fin : ∀ (v : V) (H3 : Hp), Same H2 H3 → Dt K H3 v d → Q v (upd H3 p (.ins (He.ga K "Row") dx2 [("text", .str (S (pre ++ ch :: rr ++ post))), ("at", .int ((pre ++ ch :: rr).length : Nat)), ("has_failed", .bl false)])) := fun v H3 s3 gv => by
      have hp3 := s3 _ _ hp2
      refine q _ v ((X1.trans X2).trans ((SX.of s3).trans (.put hp3 _))) ⟨hl, dx2, upd_same⟩ (gv.keep (SX.put (p := p) hp3 _).t)
    rcases hcase with ⟨i, rfl, e, hi⟩ | ⟨e, hnm⟩
    · refine .inl ⟨i, e, hi, fun H3 s3 => ?_⟩
      have hp3 := s3 _ _ hp2
      have fi := fin (.int i) H3 s3 (.int i)
      refine sq ?_
      walk_at "wp"
      refine fldw hp3 c (cn "has_failed" (by decide)) rfl ⟨false, rfl, iteFb rfl ?_⟩
      exact iteFb (decide_eq_false (by simp)) ⟨_, dx2, _, hp3, c, cn "has_failed" (by decide), Nat.lt_of_sub_eq_succ rfl, iteFb (decide_eq_false (by simp)) fi⟩
    · refine .inr ⟨hnm, fun H3 s3 => ?_⟩
      have hp3 := s3 _ _ hp2
      have fi := fin (.str (S (ch :: rr))) H3 s3 (by rw [e]; exact .str _ (by have := name_S hnm; rw [S_len]; omega))
      refine sq ?_
      walk_at "wp"
      refine fldw hp3 c (cn "has_failed" (by decide)) rfl ⟨false, rfl, iteFb rfl ?_⟩
      refine iteTb (decide_eq_true trivial) ⟨_, _, rfl, .str (S (ch :: rr)) (by have := name_S hnm; rw [S_len]; omega), fun H4 s4 => ⟨_, rfl, _, dx2, _, s4 _ _ hp3, c, cn "has_failed" (by decide), Nat.lt_of_sub_eq_succ rfl, iteTb (decide_eq_true trivial) ?_⟩⟩
      have fi4 := fin (.str (S (ch :: rr))) H4 (s3.trans s4) (by rw [e]; exact .str _ (by have := name_S hnm; rw [S_len]; omega))
      rw [show isNameD (.str (S (ch :: rr))) = true from hnm]
      exact fi4
  · have hT0 : pre ++ exprC (n + 1) (.tuple [.str o, l, r]) ++ post = pre ++ 40 :: (o.cps.toList ++ 32 :: (exprC n l ++ 32 :: (exprC n r ++ 41 :: post))) := by
      rw [exprC_tup]
      simp
    have eo : S o.cps.toList = o := S_tl o
    have hno := op_word ho
    generalize hTT : pre ++ exprC (n + 1) (.tuple [.str o, l, r]) ++ post = TT at *
    have ec : TT[pre.length]? = some 40 := by
      rw [hT0, List.getElem?_append_right (Nat.le_refl _), Nat.sub_self]
      rfl
    rw [take_one ec]
    refine ⟨rfl, iteFb (by rw [decide_eq_true (show V.str (S [40]) = V.str (Str.ofString "(") from rfl)]; rfl) ?_⟩
    refine sq ?_
    walk_at "wp"
    refine ⟨dx, _, hp1, rfl, p, TT, pre.length, 40, rfl, ⟨hl, dx, hp1⟩, ec, fun H2 X2 hr2 => ?_⟩
    obtain ⟨_, dx2, hp2⟩ := hr2
    refine sq ?_
    walk_at "wp"
    have hT1 : TT = (pre ++ [40]) ++ o.cps.toList ++ (32 :: (exprC n l ++ 32 :: (exprC n r ++ 41 :: post))) := by rw [hT0]; simp
    have hl1 : (pre ++ [40]).length = pre.length + 1 := by simp
    refine ⟨dx2, _, hp2, rfl, p, pre ++ [40], o.cps.toList, _, rfl, by rw [← hT1, hl1]; exact ⟨hl, dx2, hp2⟩, word_free hno, fun c r e => .inl (List.cons.inj e).1.symm, fun H3 X3 hr3 => ?_⟩
    rw [← hT1] at hr3
    obtain ⟨_, dx3, hp3⟩ := hr3
    refine sq ?_
    walk_at "wp"
    refine fldw hp3 c (cn "has_failed" (by decide)) rfl ⟨false, rfl, iteFb rfl ⟨_, .inr (T.tup ("OPERATORS", ops) (.head _) H3), rfl, rfl, ?_⟩⟩
    rw [show ("OPERATORS", ops).2 = ops from rfl, in_strs, eo, ho]
    refine ⟨_, dx3, _, hp3, c, cn "has_failed" (by decide), Nat.lt_of_sub_eq_succ rfl, ?_⟩
    have X4 := SX.put hp3 (.ins (He.ga K "Row") dx3 [("text", .str (S TT)), ("at", .int ((pre ++ [40] ++ o.cps.toList).length : Nat)), ("has_failed", .bl false)])
    have hp4 : (upd H3 p (.ins (He.ga K "Row") dx3 [("text", .str (S TT)), ("at", .int ((pre ++ [40] ++ o.cps.toList).length : Nat)), ("has_failed", .bl false)])) p = some (.ins (He.ga K "Row") dx3 [("text", .str (S TT)), ("at", .int ((pre ++ [40] ++ o.cps.toList).length : Nat)), ("has_failed", .bl false)]) := upd_same
    change tSeq _ _ _ _ (upd H3 p (.ins (He.ga K "Row") dx3 [("text", .str (S TT)), ("at", .int ((pre ++ [40] ++ o.cps.toList).length : Nat)), ("has_failed", .bl false)]))
    generalize upd H3 p (.ins (He.ga K "Row") dx3 [("text", .str (S TT)), ("at", .int ((pre ++ [40] ++ o.cps.toList).length : Nat)), ("has_failed", .bl false)]) = H4 at X4 hp4 ⊢
    refine sq ?_
    walk_at "wp"
    refine ⟨by decide, fun lp nlp => ?_⟩
    have nlp' : lp ≠ p := by rintro rfl; rw [hp4] at nlp; cases nlp
    have X14 := (((X1.trans X2).trans X3).trans X4)
    have nlH : H lp = none := by
      cases e : H lp with
      | none => rfl
      | some u => rw [X14.x _ _ nlp' e] at nlp; cases nlp
    have X5 := X14.at nlH (.lst [.str o])
    have hp5 : (upd H4 lp (.lst [.str o])) p = some (.ins (He.ga K "Row") dx3 [("text", .str (S TT)), ("at", .int ((pre ++ [40] ++ o.cps.toList).length : Nat)), ("has_failed", .bl false)]) := by rw [upd_ne (Ne.symm nlp')]; exact hp4
    have el5 : (upd H4 lp (.lst [.str o])) lp = some (.lst [.str o]) := upd_same
    generalize upd H4 lp (.lst [.str o]) = H5 at X5 hp5 el5 ⊢
    refine sq ?_
    refine ⟨ExW K n [.str o] TT (41 :: post) p lp [l, r] H [some (V.ref p), some (V.int (nested : Nat)), none, none, some (V.str o), some (V.ref lp)], ⟨2, rfl, pre ++ [40] ++ o.cps.toList, [l, r], [], [], dx3, by rw [hT0]; simp, rfl, rfl, X5, hp5, el5, .nil⟩, ?_⟩
    rintro m σ H6 ⟨rfl, prek, rest, done, vs, dx6, hTk, hdr2, rfl, X6, hp6, el6, hvs⟩
    have lvs := dta_len hvs
    have ldr : done.length + rest.length = 2 := by
      have := congrArg List.length hdr2
      simpa using this
    walk_at "wp"
    refine ⟨_, .inl ⟨_, .of el6, rfl⟩, ?_⟩
    cases rest with
    | nil =>
      have ll : ([V.str o] ++ vs).length = 3 := by simp at ldr ⊢; omega
      refine iteFb (by rw [ll]; rfl) ?_
      have edone : done = [l, r] := by rw [← hdr2, List.append_nil]
      subst edone
      have ec6 : TT[prek.length]? = some 41 := by
        rw [hTk, List.getElem?_append_right (Nat.le_refl _), Nat.sub_self]
        rfl
      refine sq ?_
      walk_at "wp"
      refine ⟨dx6, _, hp6, rfl, p, TT, prek.length, 41, rfl, ⟨hl, dx6, hp6⟩, ec6, fun H7 X7 hr7 => ?_⟩
      have el7 := X7.x _ _ nlp' el6
      refine ⟨[V.str o] ++ vs, .inl ⟨.of el7, fun t nt => ?_⟩⟩
      have s8 := same_new nt (.tup ([V.str o] ++ vs))
      refine q _ _ (((X6.trans X7)).trans (.of s8)) ?_ (.tup (.inl (.inl upd_same)) (.cons (.str o (by have := (name_S hno).2.1; rw [← eo, S_len]; omega)) (hvs.keep (X7.t.trans (tups_of s8)))))
      have e8 : prek.length + 1 = (pre ++ exprC (n + 1) (.tuple [.str o, l, r])).length := by
        have a1 := congrArg List.length hTk
        have a2 := congrArg List.length hTT
        simp only [List.length_append, List.flatMap_nil, List.length_nil, List.length_cons] at a1 a2 ⊢
        omega
      rw [← e8]
      exact hr7.same s8
    | cons d rest =>
      have ll : ([V.str o] ++ vs).length < 3 := by simp at ldr ⊢; omega
      refine iteTb (by simp; simp at ll; omega) ?_
      have hdP : exprP n d = true := by
        have : d ∈ [l, r] := by rw [← hdr2]; simp
        rcases List.mem_cons.mp this with rfl | h
        · exact hdl
        · rw [List.mem_singleton.mp h]; exact hdr
      refine fldw hp6 c (cn "has_failed" (by decide)) rfl ⟨false, rfl, iteTb rfl ⟨ExW K n [V.str o] TT (41 :: post) p lp [l, r] H [some (V.ref p), some (V.int (nested : Nat)), none, none, some (V.str o), some (V.ref lp)] rest.length, fun σ' H' ww => ⟨rest.length, by simp, ww⟩, ?_⟩⟩
      have ec6 : TT[prek.length]? = some 32 := by
        rw [hTk, List.getElem?_append_right (Nat.le_refl _), Nat.sub_self]
        rfl
      refine sq ?_
      walk_at "wp"
      refine ⟨dx6, _, hp6, rfl, p, TT, prek.length, 32, rfl, ⟨hl, dx6, hp6⟩, ec6, fun H7 X7 hr7 => ?_⟩
      have el7 := X7.x _ _ nlp' el6
      obtain ⟨_, dx7, hp7⟩ := hr7
      have hTk2 : TT = (prek ++ [32]) ++ exprC n d ++ (rest.flatMap (fun d => 32 :: exprC n d) ++ 41 :: post) := by
        rw [hTk]
        simp
      have hl7 : (prek ++ [32]).length = prek.length + 1 := by simp
      refine ⟨tyL el7, dx7, _, hp7, rfl, p, prek ++ [32], _, d, nested + 1, by simp, by rw [← hTk2, hl7]; exact ⟨hl, dx7, hp7⟩, hdP, by omega, ?_, fun H8 v X8 hr8 gv => ?_⟩
      · intro ch rr e
        cases rest with
        | nil => exact .inr (.inr (List.cons.inj e).1.symm)
        | cons a b => exact .inl (List.cons.inj e).1.symm
      rw [← hTk2] at hr8
      obtain ⟨_, dx8, hp8⟩ := hr8
      have el8 := X8.x _ _ nlp' el7
      refine app_ask el8 (by omega) ?_
      have t9 := tups_lst el8 (.lst ([V.str o] ++ vs ++ [v]))
      refine ⟨rfl, prek ++ [32] ++ exprC n d, rest, done ++ [d], vs ++ [v], dx8, hTk2, by rw [← hdr2]; simp, rfl, ((X6.trans X7).trans X8).at nlH _, by rw [upd_ne (Ne.symm nlp')]; exact hp8, by rw [upd_same, List.append_assoc], dta_app (hvs.keep ((X7.t.trans X8.t).trans t9)) (.cons (gv.keep t9) .nil)⟩
theorem k0_next_expression (T : Top K mg w) : FnK P w K mg base 4 (He.ma K (He.ga K "Row") "next_expression") (spPrev K 0) 1 ["nested"] := by
  obtain ⟨fd, F⟩ := T.def_ d_Row_next_expression (List.mem_of_getElem? (i := 37) rfl)
  exact mkK (k := 3) F sc_Row_next_expression (fun _ _ _ _ _ _ us ws h1 h2 => match us, ws, h1, h2 with | [_], [_], _, _ => rfl) (fun _ _ _ _ h => h.elim) (fun _ _ _ _ _ _ _ _ _ h => h.elim)
theorem ok_Row_next_expression' (T : Top K mg w) : ∀ N : Nat, FnR P w K mg base CX0 (N + 1 + 4) (He.ma K (He.ga K "Row") "next_expression") (fun vs H Q E => spNextExpr K N (vs ++ [V.int 0]) H Q E) ∧
    FnK P w K mg base (N + 1 + 4) (He.ma K (He.ga K "Row") "next_expression") (spNextExpr K N) 1 ["nested"]
  | 0 => st_Row_next_expression (N := 0) (M := 0) T (k0_next_expression T)
  | n + 1 => st_Row_next_expression (N := n + 1) (M := n + 1) T (ok_Row_next_expression' T n).2
/-- the row's next expression, as the text of a statement has it -/
def spNextE (K : PySem.W.Frag) : Sp := fun vs H Q _ => ∃ p, ∃ pre post : List Nat, ∃ d, vs = [.ref p] ∧ RowAt K H p (pre ++ exprC 6 d ++ post) pre.length ∧ exprP 6 d = true ∧ stopP post ∧
  ∀ H' v, SX p H H' → RowAt K H' p (pre ++ exprC 6 d ++ post) (pre ++ exprC 6 d).length → Dt K H' v d → Q v H'
theorem ok_Row_next_expression (T : Top K mg w) : FnR P w K mg base CX0 11 (He.ma K (He.ga K "Row") "next_expression") (spNextE K) :=
  (ok_Row_next_expression' T 6).1.imp fun vs H Q E h => by
    obtain ⟨p, pre, post, d, rfl, h1, h2, h3, q⟩ := h
    exact ⟨p, pre, post, d, 0, rfl, h1, h2, by omega, h3, q⟩
end
end K91
set_option Elab.async false
set_option linter.all false
set_option maxRecDepth 100000
set_option maxHeartbeats 8000000
namespace K91
open PySem PySem.Spec PyProof.Rows L2 _root_.SX PySem.NumText
local macro_rules | `(tactic| walk_at "wp") => `(tactic| try simp only [cxK, cxw, cxK', cxw', start1, start2, start3, start4, start5, tRet, tRetN, tAsg, gName, gTup, gCons, gNil, gSub, tDrop, tNext, tIfS, tIf, tVar, tC, tAndV, tOrV, tNotV, tAnd, tOr, tNot, tTest, tB, tCB, tCons, tNil, tOp, tUn, rI0, rI, rU, rEq, rNe, rIn, tChain, tFld, sFld, tSl, tPart, tNoPart, tTup, tLst, tCallR, tMethR, tMethO, tBM, tBM0, tM0, tM1, tDGet, tDIn, tDNotIn, tDNewK, tCmp, t2I, tIsN, tNotN, tYes, tLc_eq, tFor_eq, tLenSetN, iItems, iVals, iKeys, iRng1, tLock, tLockE, tCallKw, tMakeKw, tMethKw, StX.tMakeR, tDc_eq, tLc2_eq, sFldAug, rMulS, tListVals, LiI.tListItems, LiI.rItemsL, RZ.iZipA, iStr, iTup, iList, iEnum, iEnumT, tDGet1, tDGet2, tDisp, tPairs, wipe, List.map_cons, List.map_nil,
  List.length_cons, List.length_nil, Nat.reduceAdd, Nat.reduceSub, List.replicate_succ, List.replicate_zero, if_true, if_false, Bool.not_true, Bool.not_false, Bool.false_eq_true, reduceIte,
  List.set_cons_zero, List.set_cons_succ, List.getElem?_cons_zero, List.getElem?_cons_succ, Option.some.injEq, exists_eq_left', exists_eq_left, V.int.injEq, V.str.injEq, V.bl.injEq, V.ref.injEq, V.ty.injEq, List.cons.injEq, and_true, true_and, and_assoc, exists_and_left, List.nil_append, List.cons_append, List.append_nil])
local macro_rules | `(tactic| walk_at "st") => `(tactic| (refine sq ?_; walk_at "wp"))
section
variable {P : Program} {w : World} {K : PySem.W.Frag} {mg : Str → Option Value} {base : Heap}
def argsC (es : List PyData) : List Nat := es.flatMap fun e => 32 :: exprC 6 e
/-- the loop over the arguments -/
def ArW (K : PySem.W.Frag) (TT : List Nat) (p lp : Addr) (ds : List PyData) (H : Hp) (σ0 : L2.St) (m : Nat) (σ : L2.St) (H' : Hp) : Prop := σ = σ0 ∧ ∃ prek rest done vs dx, TT = prek ++ argsC rest ∧ done ++ rest = ds ∧ m = rest.length ∧ SX p H H' ∧
  H' p = some (.ins (He.ga K "Row") dx [("text", .str (S TT)), ("at", .int (prek.length : Nat)), ("has_failed", .bl false)]) ∧ H' lp = some (.lst vs) ∧ DtAll K H' vs done
def spNextArgs (K : PySem.W.Frag) : Sp := fun vs H Q _ => ∃ p, ∃ pre : List Nat, ∃ es, vs = [.ref p] ∧ RowAt K H p (pre ++ argsC es) pre.length ∧ (∀ e ∈ es, exprP 6 e = true) ∧ es.length ≤ 100 ∧
  ∀ H' v, SX p H H' → RowAt K H' p (pre ++ argsC es) (pre ++ argsC es).length → Dt K H' v (.tuple es) → Q v H'
theorem ok_Row_next_arguments (T : Top K mg w)  : FnR P w K mg base CX0 13 (He.ma K (He.ga K "Row") "next_arguments") (spNextArgs K) := by
  obtain ⟨fd, F⟩ := T.def_ d_Row_next_arguments (List.mem_of_getElem? (i := 39) rfl)
  refine mkR F sc_Row_next_arguments (fun _ _ _ _ _ _ us hl => match us, hl with | [_], _ => rfl) (fun vs H Q E h => ?_) (fun cdv A outer s H vs Q E hr h => ?_)
  · obtain ⟨p, pre, es, rfl, _⟩ := h; rfl
  obtain ⟨p, pre, es, rfl, ⟨hl, dx, hp⟩, hes, hle, q⟩ := h
  have G_Row_skip := ok_Row_skip (P := P) (w := w) (base := base) T
  have G_Row_next_expression := ok_Row_next_expression (P := P) (w := w) (base := base) T
  refine ⟨_, pss_cons (ps_set (i := 1) sc_Row_next_arguments.nd rfl (by first | exact Or.inl rfl | exact Or.inr rfl) (pe_lst pa_nil))
    (pss_cons (ps_while PassesOwn.never (PW.pt (pw_and (pt_cmpR (op_lt) (pe_fld (pv 0) rfl) (pe_callB (r := fun xs H Q => ∃ x n, xs = [x] ∧ LenV K x H n ∧ Q (.int n) H) call_len (by rfl) (T.free "len" (by decide +kernel)) (by decide +kernel) (pa_cons (pe_fld (pv 0) rfl) pa_nil)) (nomark _)) (pw_and1 (pt_not (pt_val (pe_fld (pv 0) rfl))))))
    (pss_cons (ps_expr (pe_methR (pv 0) (T.cls "Row" (by decide +kernel)).1 (T.meth ("Row", "skip") (by decide +kernel)) G_Row_skip (hr.mono (by omega)) pass0 (pa_cons pe_str pa_nil)))
    (pss_one (ps_expr (pe_bm PySem.F.plainAttrs_list PySem.F.slot_list_append PySem.F.type_list_append mt_append (pv 1) (pa_cons (pmeth0' (T.cls "Row" (by decide +kernel)).1 (T.meth ("Row", "next_expression") (by decide +kernel)) G_Row_next_expression hr (pv 0)) pa_nil))))))
    (pss_one (ps_ret (pe_callTy call_tuple_of (by rfl) (T.free "tuple" (by decide +kernel)) (by decide +kernel) (pa_cons (pv 1) pa_nil))))), ?_⟩
  have zl := line_big
  have c := (T.cls "Row" (by decide +kernel)).1
  have cn (f : Str) (hf : f ∈ ROWF) : NoAttr K (He.ga K "Row") f := T.noat ("Row", f) (rowf hf)
  refine sq ?_
  walk_at "wp"
  refine ⟨Nat.zero_le _, fun lp nlp => ?_⟩
  have nlp' : lp ≠ p := by rintro rfl; rw [hp] at nlp; cases nlp
  have s1 := same_new nlp (.lst [])
  generalize hTT : pre ++ argsC es = TT at *
  refine sq ?_
  refine ⟨ArW K TT p lp es H [some (V.ref p), some (V.ref lp)], ⟨es.length, rfl, pre, es, [], [], dx, hTT.symm, rfl, rfl, .of s1, s1 _ _ hp, upd_same, .nil⟩, ?_⟩
  rintro m σ H6 ⟨rfl, prek, rest, done, vs, dx6, hTk, hdr, rfl, X6, hp6, el6, hvs⟩
  have lvs := dta_len hvs
  walk_at "wp"
  refine fldw hp6 c (cn "at" (by decide)) rfl (fldw hp6 c (cn "text" (by decide)) rfl ⟨TT.length, ⟨by rw [S_len]; omega, by rw [S_len]⟩, _, rfl, ?_⟩)
  have lTk := congrArg List.length hTk
  rw [List.length_append] at lTk
  cases rest with
  | nil =>
    have e0 : argsC [] = [] := rfl
    rw [e0, List.length_nil] at lTk
    refine iteFb (decide_eq_false (by omega)) ?_
    have edone : done = es := by rw [← hdr, List.append_nil]
    subst edone
    refine ⟨vs, .inl ⟨.of el6, fun t nt => ?_⟩⟩
    have s8 := same_new nt (.tup vs)
    rw [Nat.add_zero] at lTk
    refine q _ _ (X6.trans (.of s8)) ⟨hl, dx6, ?_⟩ (.tup (.inl (.inl upd_same)) (hvs.keep (tups_of s8)))
    rw [lTk]
    exact s8 _ _ hp6
  | cons d rest =>
    have e0 : argsC (d :: rest) = 32 :: (exprC 6 d ++ argsC rest) := by simp [argsC]
    rw [e0, List.length_cons] at lTk
    refine iteTb (decide_eq_true (by omega)) (fldw hp6 c (cn "has_failed" (by decide)) rfl ⟨false, rfl, iteTb rfl ⟨ArW K TT p lp es H [some (V.ref p), some (V.ref lp)] rest.length, fun σ' H' ww => ⟨rest.length, by simp, ww⟩, ?_⟩⟩)
    have hdP : exprP 6 d = true := hes d (by rw [← hdr]; simp)
    have ec6 : TT[prek.length]? = some 32 := by
      rw [hTk, e0, List.getElem?_append_right (Nat.le_refl _), Nat.sub_self]
      rfl
    have ldone : done.length + rest.length + 1 ≤ 100 := by
      have := congrArg List.length hdr
      simp at this
      omega
    refine sq ?_
    walk_at "wp"
    refine ⟨dx6, _, hp6, rfl, p, TT, prek.length, 32, rfl, ⟨hl, dx6, hp6⟩, ec6, fun H7 X7 hr7 => ?_⟩
    have el7 := X7.x _ _ nlp' el6
    obtain ⟨_, dx7, hp7⟩ := hr7
    have hTk2 : TT = (prek ++ [32]) ++ exprC 6 d ++ argsC rest := by
      rw [hTk, e0]
      simp
    have hl7 : (prek ++ [32]).length = prek.length + 1 := by simp
    refine ⟨tyL el7, dx7, _, hp7, rfl, p, prek ++ [32], _, d, rfl, by rw [← hTk2, hl7]; exact ⟨hl, dx7, hp7⟩, hdP, ?_, fun H8 v X8 hr8 gv => ?_⟩
    · intro ch rr e
      cases rest with
      | nil => cases e
      | cons a b => exact .inl (List.cons.inj e).1.symm
    rw [← hTk2] at hr8
    obtain ⟨_, dx8, hp8⟩ := hr8
    have el8 := X8.x _ _ nlp' el7
    refine app_ask el8 (by omega) ?_
    have t9 := tups_lst el8 (.lst (vs ++ [v]))
    refine ⟨rfl, prek ++ [32] ++ exprC 6 d, rest, done ++ [d], vs ++ [v], dx8, hTk2, by rw [← hdr]; simp, rfl, ((X6.trans X7).trans X8).at nlp _, by rw [upd_ne (Ne.symm nlp')]; exact hp8, upd_same, dta_app (hvs.keep ((X7.t.trans X8.t).trans t9)) (.cons (gv.keep t9) .nil)⟩
def spIsRead (K : PySem.W.Frag) : Sp := fun vs H Q _ => ∃ p L, vs = [.ref p] ∧ RowAt K H p L L.length ∧ Q (.bl true) H
theorem ok_Row_is_read (T : Top K mg w)  : FnR P w K mg base CX0 1 (He.ma K (He.ga K "Row") "is_read") (spIsRead K) := by
  obtain ⟨fd, F⟩ := T.def_ d_Row_is_read (List.mem_of_getElem? (i := 40) rfl)
  refine mkR F sc_Row_is_read (fun _ _ _ _ _ _ us hl => match us, hl with | [_], _ => rfl) (fun vs H Q E h => ?_) (fun cdv A outer s H vs Q E hr h => ?_)
  · obtain ⟨p, L, rfl, _⟩ := h; rfl
  obtain ⟨p, L, rfl, ⟨hl, dx, hp⟩, q⟩ := h
  refine ⟨_, pss_one (ps_ret (pe_and (pe_not (pe_fld (pv 0) rfl)) (pe_one (pe_cmpR (op_eq) (pe_fld (pv 0) rfl) (pe_callB (r := fun xs H Q => ∃ x n, xs = [x] ∧ LenV K x H n ∧ Q (.int n) H) call_len (by rfl) (T.free "len" (by decide +kernel)) (by decide +kernel) (pa_cons (pe_fld (pv 0) rfl) pa_nil)) (nomark _))))), ?_⟩
  have zl := line_big
  have c := (T.cls "Row" (by decide +kernel)).1
  have cn (f : Str) (hf : f ∈ ROWF) : NoAttr K (He.ga K "Row") f := T.noat ("Row", f) (rowf hf)
  walk_at "wp"
  refine fldw hp c (cn "has_failed" (by decide)) rfl ⟨false, rfl, ?_⟩
  refine iteTb rfl (fldw hp c (cn "at" (by decide)) rfl (fldw hp c (cn "text" (by decide)) rfl ⟨L.length, ⟨by rw [S_len]; omega, by rw [S_len]⟩, rfl, ?_⟩))
  rw [decide_eq_true rfl]
  exact q
def partC (kind : Str) (d : PyData) : List Nat := if kind = "args" then (match d with | .tuple es => argsC es | _ => []) else 32 :: exprC 6 d
def partP (kind : Str) (post : List Nat) (d : PyData) : Prop := (kind = "args" → ∃ es, d = .tuple es ∧ (∀ e ∈ es, exprP 6 e = true) ∧ es.length ≤ 100 ∧ post = []) ∧ (kind = "name" → ∃ x, d = .str x ∧ nameB x = true) ∧ (kind = "jump" → ∃ i, d = .int i ∧ smallI i) ∧ (kind ≠ "args" → exprP 6 d = true)
def spNextPart (K : PySem.W.Frag) : Sp := fun vs H Q _ => ∃ p kind, ∃ pre post : List Nat, ∃ d, vs = [.ref p, .str kind] ∧ RowAt K H p (pre ++ partC kind d ++ post) pre.length ∧ partP kind post d ∧ stopP post ∧
  ∀ H' v, SX p H H' → RowAt K H' p (pre ++ partC kind d ++ post) (pre ++ partC kind d).length → Dt K H' v d → Q v H'
theorem ok_Row_next_part (T : Top K mg w)  : FnR P w K mg base CX0 14 (He.ma K (He.ga K "Row") "next_part") (spNextPart K) := by
  obtain ⟨fd, F⟩ := T.def_ d_Row_next_part (List.mem_of_getElem? (i := 38) rfl)
  refine mkR F sc_Row_next_part (fun _ _ _ _ _ _ us hl => match us, hl with | [_, _], _ => rfl) (fun vs H Q E h => ?_) (fun cdv A outer s H vs Q E hr h => ?_)
  · obtain ⟨p, kind, pre, post, d, rfl, _⟩ := h; rfl
  obtain ⟨p, kind, pre, post, d, rfl, hr1, ⟨h1, h2, h3, h4⟩, hpost, q⟩ := h
  have G_Row_skip := ok_Row_skip (P := P) (w := w) (base := base) T
  have G_Row_next_expression := ok_Row_next_expression (P := P) (w := w) (base := base) T
  have G_Row_next_arguments := ok_Row_next_arguments (P := P) (w := w) (base := base) T
  have G_Row_next_name := ok_Row_next_name (P := P) (w := w) (base := base) T
  have G_Row_next_number := ok_Row_next_number (P := P) (w := w) (base := base) T
  refine ⟨_, pss_cons (ps_if (pt_cmpR (op_eq) (pv 1) pe_str (nomark _)) (pss_one (ps_ret (pmeth0' (T.cls "Row" (by decide +kernel)).1 (T.meth ("Row", "next_arguments") (by decide +kernel)) G_Row_next_arguments hr (pv 0)))) pss_nil)
    (pss_cons (ps_expr (pe_methR (pv 0) (T.cls "Row" (by decide +kernel)).1 (T.meth ("Row", "skip") (by decide +kernel)) G_Row_skip (hr.mono (by omega)) pass0 (pa_cons pe_str pa_nil)))
    (pss_cons (ps_if (pt_cmpR (op_eq) (pv 1) pe_str (nomark _)) (pss_one (ps_ret (pmeth0' (T.cls "Row" (by decide +kernel)).1 (T.meth ("Row", "next_name") (by decide +kernel)) G_Row_next_name hr (pv 0)))) pss_nil)
    (pss_one (ps_ret (pe_ifExp (pt_cmpR (op_eq) (pv 1) pe_str (nomark _)) (pmeth0' (T.cls "Row" (by decide +kernel)).1 (T.meth ("Row", "next_number") (by decide +kernel)) G_Row_next_number hr (pv 0)) (pmeth0' (T.cls "Row" (by decide +kernel)).1 (T.meth ("Row", "next_expression") (by decide +kernel)) G_Row_next_expression hr (pv 0))))))), ?_⟩
  have zl := line_big
  have c := (T.cls "Row" (by decide +kernel)).1
  have hr0 := hr1
  obtain ⟨hl, dx, hp⟩ := hr1
  walk_at "st"
  refine ⟨rfl, ite2 (fun c1 => ?_) (fun c1 => ?_)⟩
  · have c1' : kind = "args" := of_decide_eq_true c1
    obtain ⟨es, rfl, he, hle, rfl⟩ := h1 c1'
    have ep : partC kind (.tuple es) = argsC es := by unfold partC; rw [if_pos c1']
    rw [ep, List.append_nil] at hr0 hp q
    exact ⟨dx, _, hp, rfl, p, pre, es, rfl, hr0, he, hle, q⟩
  have c1' : kind ≠ "args" := fun z => c1 (decide_eq_true z)
  have ep : partC kind d = 32 :: exprC 6 d := by unfold partC; rw [if_neg c1']
  rw [ep] at hr0 hp q hl
  have eT : pre ++ 32 :: exprC 6 d ++ post = (pre ++ [32]) ++ exprC 6 d ++ post := by simp
  rw [eT] at hr0 hp q hl
  have eL : (pre ++ 32 :: exprC 6 d) = (pre ++ [32]) ++ exprC 6 d := by simp
  rw [eL] at q
  have ec : ((pre ++ [32]) ++ exprC 6 d ++ post)[pre.length]? = some 32 := by
    rw [List.append_assoc, List.append_assoc, List.getElem?_append_right (Nat.le_refl _), Nat.sub_self]
    rfl
  have l1 : (pre ++ [32]).length = pre.length + 1 := by simp
  walk_at "st"
  refine ⟨dx, _, hp, rfl, p, _, pre.length, 32, rfl, hr0, ec, fun H1 X1 hr1 => ?_⟩
  rw [← l1] at hr1
  have hr1' := hr1
  obtain ⟨_, dx1, hp1⟩ := hr1'
  walk_at "st"
  refine ⟨rfl, ite2 (fun c2 => ?_) (fun c2 => ?_)⟩
  · have c2' : kind = "name" := of_decide_eq_true c2
    obtain ⟨x, rfl, hx⟩ := h2 c2'
    rw [exprC_str] at hr1 hp1 q
    have ex : S x.cps.toList = x := S_tl x
    refine ⟨dx1, _, hp1, rfl, p, pre ++ [32], x.cps.toList, post, rfl, hr1, by rw [ex]; exact hx, hpost, fun H2 X2 hr2 => ?_⟩
    rw [ex]
    exact q H2 _ (X1.trans X2) hr2 (.str x (by have := name_len hx; omega))
  walk_at "wp"
  refine ⟨rfl, ite2 (fun c3 => ?_) (fun c3 => ?_)⟩
  · have c3' : kind = "jump" := of_decide_eq_true c3
    obtain ⟨i, rfl, hi⟩ := h3 c3'
    rw [exprC_int] at hr1 hp1 q
    exact ⟨dx1, _, hp1, rfl, p, pre ++ [32], post, i, rfl, hr1, hi, hpost, fun H2 X2 hr2 => q H2 _ (X1.trans X2) hr2 (.int i)⟩
  · exact ⟨dx1, _, hp1, rfl, p, pre ++ [32], post, d, rfl, hr1, h4 c1', hpost, fun H2 v X2 hr2 gv => q H2 v (X1.trans X2) hr2 gv⟩
end
end K91
set_option Elab.async false
set_option linter.all false
set_option maxRecDepth 100000
set_option maxHeartbeats 8000000
namespace K91
open PySem PySem.Spec PyProof.Rows L2 _root_.SX PySem.NumText
local macro_rules | `(tactic| walk_at "wp") => `(tactic| try simp only [cxK, cxw, cxK', cxw', start1, start2, start3, start4, start5, tRet, tRetN, tAsg, gName, gTup, gCons, gNil, gSub, tDrop, tNext, tIfS, tIf, tVar, tC, tAndV, tOrV, tNotV, tAnd, tOr, tNot, tTest, tB, tCB, tCons, tNil, tOp, tUn, rI0, rI, rU, rEq, rNe, rIn, tChain, tFld, sFld, tSl, tPart, tNoPart, tTup, tLst, tCallR, tMethR, tMethO, tBM, tBM0, tM0, tM1, tDGet, tDIn, tDNotIn, tDNewK, tCmp, t2I, tIsN, tNotN, tYes, tLc_eq, tFor_eq, tLenSetN, iItems, iVals, iKeys, iRng1, tLock, tLockE, tCallKw, tMakeKw, tMethKw, StX.tMakeR, tDc_eq, tLc2_eq, sFldAug, rMulS, tListVals, LiI.tListItems, LiI.rItemsL, RZ.iZipA, iStr, iTup, iList, iEnum, iEnumT, tDGet1, tDGet2, tDisp, tPairs, wipe, List.map_cons, List.map_nil,
  List.length_cons, List.length_nil, Nat.reduceAdd, Nat.reduceSub, List.replicate_succ, List.replicate_zero, if_true, if_false, Bool.not_true, Bool.not_false, Bool.false_eq_true, reduceIte,
  List.set_cons_zero, List.set_cons_succ, List.getElem?_cons_zero, List.getElem?_cons_succ, Option.some.injEq, exists_eq_left', exists_eq_left, V.int.injEq, V.str.injEq, V.bl.injEq, V.ref.injEq, V.ty.injEq, List.cons.injEq, and_true, true_and, and_assoc, exists_and_left, List.nil_append, List.cons_append, List.append_nil])
local macro_rules | `(tactic| walk_at "st") => `(tactic| (refine sq ?_; walk_at "wp"))
section
variable {P : Program} {w : World} {K : PySem.W.Frag} {mg : Str → Option Value} {base : Heap}
def RdAt (K : PySem.W.Frag) (H : Hp) (p la : Addr) (ls : List (List Nat)) (k : Nat) : Prop := ls.length ≤ 200000 ∧ (∀ l ∈ ls, l.length ≤ 100000) ∧ ∃ dx, H p = some (.ins (He.ga K "Reader") dx [("lines", .ref la), ("line_at", .int (k : Nat))]) ∧ SqL K H la (ls.map fun l => V.str (S l)) ∧ la ≠ p
def RDF : List Str := ["lines", "line_at"]
theorem rdf {f : Str} (h : f ∈ RDF) : (("Reader", f) : Str × Str) ∈ kNoat := by
  have e : RDF.all (fun f => decide ((("Reader", f) : Str × Str) ∈ kNoat)) = true := by decide +kernel
  exact of_decide_eq_true (List.all_eq_true.mp e f h)
theorem takeWhile_rep (p : Nat → Bool) (k : Nat) (ws : List Nat) (h32 : p 32 = true) (h : ∀ c r, ws = c :: r → p c = false) : (List.replicate k 32 ++ ws).takeWhile p = List.replicate k 32 := by
  induction k with
  | zero =>
    cases ws with
    | nil => rfl
    | cons c r => simp [List.takeWhile_cons, h c r rfl]
  | succ k ih =>
    rw [List.replicate_succ, List.cons_append, List.takeWhile_cons, h32]
    simp [ih]
theorem lstrip_S (k : Nat) (ws : List Nat) (h : ∀ c r, ws = c :: r → c ≠ 32) : Txt.lstripChars (S (List.replicate k 32 ++ ws)) (S [32]) = S ws := by
  unfold Txt.lstripChars
  rw [stripBy_eq]
  have e1 : stripLo (S [32]).cps.contains true (S (List.replicate k 32 ++ ws)) = k := by
    unfold stripLo
    simp only [if_true]
    rw [takeWhile_rep _ k ws (by simp) (fun c r e => by have := h c r e; simp; omega)]
    simp
  have e2 : stripHi (S [32]).cps.contains false (S (List.replicate k 32 ++ ws)) k = (S (List.replicate k 32 ++ ws)).length := rfl
  rw [e1, e2]
  refine TL.ext_tl ?_
  rw [TL.tl_strSub_end]
  show (List.replicate k 32 ++ ws).drop k = ws
  exact List.drop_left' (by simp)
def spRdInit (K : PySem.W.Frag) : Sp := fun vs H Q _ => ∃ p dx x, vs = [.ref p, x] ∧ H p = some (.ins (He.ga K "Reader") dx []) ∧ ∀ H', SameX p H H' → H' p = some (.ins (He.ga K "Reader") dx [("lines", x), ("line_at", .int 0)]) → Q .non H'
theorem ok_Reader___init__ (T : Top K mg w)  : FnR P w K mg base CX0 1 (He.ma K (He.ga K "Reader") "__init__") (spRdInit K) := by
  obtain ⟨fd, F⟩ := T.def_ d_Reader___init__ (List.mem_of_getElem? (i := 41) rfl)
  refine mkR F sc_Reader___init__ (fun _ _ _ _ _ _ us hl => match us, hl with | [_, _], _ => rfl) (fun vs H Q E h => ?_) (fun cdv A outer s H vs Q E hr h => ?_)
  · obtain ⟨p, dx, x, rfl, _⟩ := h; rfl
  obtain ⟨p, dx, x, rfl, hp, q⟩ := h
  refine ⟨_, pss_cons (ps_fld (pv 0) (pv 1) rfl)
    (pss_one (ps_fld (pv 0) pe_int rfl)), ?_⟩
  have c := (T.cls "Reader" (by decide +kernel)).1
  walk_at "st"
  refine ⟨_, dx, _, hp, c, T.noat ("Reader", "lines") (by decide +kernel), by simp, ?_⟩
  refine ⟨_, dx, _, upd_same, c, T.noat ("Reader", "line_at") (by decide +kernel), Nat.lt_of_le_of_lt put_le (by simp), q _ ?_ (by rw [upd_same]; rfl)⟩
  exact (SameX.put _).trans (.put _)
/-- the next line: its indentation, its words -/
def spNextLine (K : PySem.W.Frag) : Sp := fun vs H Q _ => ∃ p la ls k, vs = [.ref p] ∧ RdAt K H p la ls k ∧
  ((k = ls.length ∧ ∀ H' t, Same H H' → SqT K H' t [.int (-1), .str (S [])] → Q (.ref t) H') ∨
   ∃ sp ws, ls[k]? = some (List.replicate sp 32 ++ ws) ∧ (∀ c r, ws = c :: r → c ≠ 32) ∧ ∀ H' t, Same H H' → SqT K H' t [.int (sp : Nat), .str (S ws)] → Q (.ref t) H')
theorem ok_Reader_next_line (T : Top K mg w)  : FnR P w K mg base CX0 1 (He.ma K (He.ga K "Reader") "next_line") (spNextLine K) := by
  obtain ⟨fd, F⟩ := T.def_ d_Reader_next_line (List.mem_of_getElem? (i := 42) rfl)
  refine mkR F sc_Reader_next_line (fun _ _ _ _ _ _ us hl => match us, hl with | [_], _ => rfl) (fun vs H Q E h => ?_) (fun cdv A outer s H vs Q E hr h => ?_)
  · obtain ⟨p, la, ls, k, rfl, _⟩ := h; rfl
  obtain ⟨p, la, ls, k, rfl, ⟨hn, hl, dx, hp, hla, nla⟩, hc⟩ := h
  refine ⟨_, pss_cons (ps_if (pt_cmpR (op_eq) (pe_fld (pv 0) rfl) (pe_callB (r := fun xs H Q => ∃ x n, xs = [x] ∧ LenV K x H n ∧ Q (.int n) H) call_len (by rfl) (T.free "len" (by decide +kernel)) (by decide +kernel) (pa_cons (pe_fld (pv 0) rfl) pa_nil)) (nomark _)) (pss_one (ps_ret (pe_tup (pa_cons (pe_un un_neg pe_int) (pa_cons pe_str pa_nil))))) pss_nil)
    (pss_cons (ps_set (i := 1) sc_Reader_next_line.nd rfl (by first | exact Or.inl rfl | exact Or.inr rfl) (pe_ix (r := rIxL K) ix_list (pe_fld (pv 0) rfl) (pe_fld (pv 0) rfl) (fun _ _ => rfl)))
    (pss_cons (ps_set (i := 2) sc_Reader_next_line.nd rfl (by first | exact Or.inl rfl | exact Or.inr rfl) (pe_bm PySem.F.plainAttrs_str PySem.F.slot_str_lstrip PySem.F.type_str_lstrip mt_lstripChars (pv 1) (pa_cons pe_str pa_nil)))
    (pss_one (ps_ret (pe_tup (pa_cons (pe_op op_sub (pe_callB (r := fun xs H Q => ∃ x n, xs = [x] ∧ LenV K x H n ∧ Q (.int n) H) call_len (by rfl) (T.free "len" (by decide +kernel)) (by decide +kernel) (pa_cons (pv 1) pa_nil)) (pe_callB (r := fun xs H Q => ∃ x n, xs = [x] ∧ LenV K x H n ∧ Q (.int n) H) call_len (by rfl) (T.free "len" (by decide +kernel)) (by decide +kernel) (pa_cons (pv 2) pa_nil))) (pa_cons (pv 2) pa_nil))))))), ?_⟩
  have zl := line_big
  have c := (T.cls "Reader" (by decide +kernel)).1
  have cn (f : Str) (hf : f ∈ RDF) : NoAttr K (He.ga K "Reader") f := T.noat ("Reader", f) (rdf hf)
  walk_at "st"
  refine fldw hp c (cn "line_at" (by decide)) rfl (fldw hp c (cn "lines" (by decide)) rfl ⟨_, .inl ⟨_, hla, rfl⟩, rfl, ?_⟩)
  rw [List.length_map]
  rcases hc with ⟨rfl, q⟩ | ⟨sp, ws, hk, hws, q⟩
  · refine iteTb (decide_eq_true rfl) ?_
    exact ⟨by decide, fun t nt => q _ t (same_new nt _) (.inl (.inl upd_same))⟩
  · have hk2 := (List.getElem?_eq_some_iff.mp hk).1
    refine iteFb (decide_eq_false fun z => by have := V.int.inj z; omega) ?_
    walk_at "st"
    have el : (ls.map fun l => V.str (S l))[k]? = some (V.str (S (List.replicate sp 32 ++ ws))) := by rw [List.getElem?_map, hk]; rfl
    have hlen := hl _ (List.mem_of_getElem? hk)
    rw [List.length_append, List.length_replicate] at hlen
    refine fldw hp c (cn "lines" (by decide)) rfl (fldw hp c (cn "line_at" (by decide)) rfl (ixL_at k hla el ?_))
    refine sq ?_
    walk_at "wp"
    have es : Txt.lstripChars (S (List.replicate sp 32 ++ ws)) (Str.ofString " ") = S ws := lstrip_S sp ws hws
    rw [es]
    refine ⟨rfl, by rw [S_len, List.length_append, List.length_replicate]; omega, _, ⟨by rw [S_len, List.length_append, List.length_replicate]; omega, rfl⟩, _, ⟨by rw [S_len]; omega, rfl⟩, by decide, fun t nt => ?_⟩
    have ei : (((S (List.replicate sp 32 ++ ws)).length : Int) - ((S ws).length : Int)) = (sp : Int) := by
      rw [S_len, S_len, List.length_append, List.length_replicate]
      omega
    rw [ei]
    exact q _ t (same_new nt _) (.inl (.inl upd_same))
theorem RdAt.same {H H' : Hp} {p la : Addr} {ls : List (List Nat)} {k : Nat} (h : RdAt K H p la ls k) (s : Same H H') : RdAt K H' p la ls k := by
  obtain ⟨a, b, dx, e, e2, e3⟩ := h
  exact ⟨a, b, dx, s _ _ e, s.seq e2, e3⟩
/-- the words of a line begin with this one -/
def firstW (ws w1 : List Nat) : Prop := 32 ∉ w1 ∧ (ws = w1 ∨ ∃ r, ws = w1 ++ 32 :: r)
theorem first_split {ws w1 : List Nat} (h : firstW ws w1) : ∃ r, TL.spl [32] 0 [] ws = w1 :: r := by
  rcases h.2 with rfl | ⟨r, rfl⟩
  · exact ⟨[], TL.spl_last1 h.1⟩
  · exact ⟨_, TL.spl_part1 (acc := []) (rest := r) h.1⟩
def spIsNext (K : PySem.W.Frag) : Sp := fun vs H Q _ => ∃ p la ls k, ∃ depth : Nat, ∃ word, vs = [.ref p, .int depth, .str (S word)] ∧ RdAt K H p la ls k ∧ depth ≤ 1000 ∧
  ((k = ls.length ∧ ∀ H', Same H H' → Q (.bl false) H') ∨
   ∃ sp ws w1, ls[k]? = some (List.replicate sp 32 ++ ws) ∧ (∀ c r, ws = c :: r → c ≠ 32) ∧ firstW ws w1 ∧ ∀ H', Same H H' → Q (.bl (decide (sp = depth * 2) && decide (w1 = word))) H')
theorem ok_Reader_is_next (T : Top K mg w)  : FnR P w K mg base CX0 2 (He.ma K (He.ga K "Reader") "is_next") (spIsNext K) := by
  obtain ⟨fd, F⟩ := T.def_ d_Reader_is_next (List.mem_of_getElem? (i := 43) rfl)
  refine mkR F sc_Reader_is_next (fun _ _ _ _ _ _ us hl => match us, hl with | [_, _, _], _ => rfl) (fun vs H Q E h => ?_) (fun cdv A outer s H vs Q E hr h => ?_)
  · obtain ⟨p, la, ls, k, depth, word, rfl, _⟩ := h; rfl
  obtain ⟨p, la, ls, k, depth, word, rfl, hrd, hdep, hc⟩ := h
  have G_Reader_next_line := ok_Reader_next_line (P := P) (w := w) (base := base) T
  refine ⟨_, pss_cons (ps_asg (pmeth0' (T.cls "Reader" (by decide +kernel)).1 (T.meth ("Reader", "next_line") (by decide +kernel)) G_Reader_next_line hr (pv 0)) (pg_tup (n := 2) rfl (pgs_cons (pg_name (i := 3) sc_Reader_is_next.nd rfl (by first | exact Or.inl rfl | exact Or.inr rfl)) (pgs_cons (pg_name (i := 4) sc_Reader_is_next.nd rfl (by first | exact Or.inl rfl | exact Or.inr rfl)) pgs_nil))))
    (pss_one (ps_ret (pe_and (pe_cmpR (op_eq) (pv 3) (pe_op op_mul (pv 1) (pe_callB (r := fun xs H Q => ∃ x n, xs = [x] ∧ LenV K x H n ∧ Q (.int n) H) call_len (by rfl) (T.free "len" (by decide +kernel)) (by decide +kernel) (pa_cons (pe_gstr (T.str ("STEP", "  ") (by decide +kernel))) pa_nil))) (nomark _)) (pe_one (pe_cmpR (op_eq) (pe_ix (r := rIxL K) ix_list (pe_split (pv 4) pe_str) pe_int (fun _ _ => rfl)) (pv 2) (nomark _)))))), ?_⟩
  have zl := line_big
  have hrd0 := hrd
  obtain ⟨hn, hl, dx, hp, hla, nla⟩ := hrd
  walk_at "st"
  refine ⟨dx, _, hp, rfl, p, la, ls, k, rfl, hrd0, ?_⟩
  rcases hc with ⟨rfl, q⟩ | ⟨sp, ws, w1, hk, hws, hw1, q⟩
  · refine .inl ⟨rfl, fun H1 t s1 hT => ?_⟩
    refine ⟨t, rfl, _, hT, rfl, _, _, rfl, _, _, rfl, rfl, ?_⟩
    walk_at "wp"
    exact ⟨2, ⟨by show 2 ≤ sizeLine; omega, rfl⟩, .inl ⟨by omega, by omega⟩, rfl, iteFb (decide_eq_false (by omega)) (q H1 s1)⟩
  · refine .inr ⟨sp, ws, hk, hws, fun H1 t s1 hT => ?_⟩
    refine ⟨t, rfl, _, hT, rfl, _, _, rfl, _, _, rfl, rfl, ?_⟩
    walk_at "wp"
    have hlen := hl _ (List.mem_of_getElem? hk)
    rw [List.length_append, List.length_replicate] at hlen
    refine ⟨2, ⟨by show 2 ≤ sizeLine; omega, rfl⟩, .inl ⟨by omega, by omega⟩, rfl, ite2 (fun c1 => ?_) (fun c1 => ?_)⟩
    · have e1 : sp = depth * 2 := by have := of_decide_eq_true c1; omega
      obtain ⟨r, er⟩ := first_split hw1
      refine ⟨⟨_, rfl⟩, rfl, by rw [S_len]; omega, ?_⟩
      have esp : Txt.split (S ws) (Str.ofString " ") = (w1 :: r).map S := by
        rw [← er]
        exact split_S (a := ws) (b := [32]) (by simp) (by decide)
      rw [esp]
      intro lp nlp
      refine ixL_at 0 (.of upd_same) (v := V.str (S w1)) rfl ⟨rfl, ?_⟩
      have q2 := q _ (s1.trans (same_new nlp (.lst ((w1 :: r).map S |>.map V.str))))
      rw [decide_eq_true e1, Bool.true_and] at q2
      have ed : decide (V.str (S w1) = V.str (S word)) = decide (w1 = word) := by
        by_cases z : w1 = word
        · rw [decide_eq_true z, decide_eq_true (by rw [z])]
        · rw [decide_eq_false z, decide_eq_false fun y => z (S_inj (V.str.inj y))]
      rw [ed]
      exact q2
    · have q2 := q H1 s1
      rw [decide_eq_false (fun z => c1 (decide_eq_true (by omega))), Bool.false_and] at q2
      exact q2
theorem firstW_drop {ws w1 : List Nat} (h : firstW ws w1) : ∃ post, ws = w1 ++ post ∧ stopP post := by
  rcases h.2 with rfl | ⟨r, rfl⟩
  · exact ⟨[], by simp, fun _ _ e => by cases e⟩
  · exact ⟨32 :: r, rfl, fun _ _ e => .inl (List.cons.inj e).1.symm⟩
def spRowBehind (K : PySem.W.Frag) : Sp := fun vs H Q _ => ∃ p la ls k word sp post, vs = [.ref p, .str (S word)] ∧ RdAt K H p la ls k ∧ ls[k]? = some (List.replicate sp 32 ++ (word ++ post)) ∧ (∀ c r, word ++ post = c :: r → c ≠ 32) ∧
  ∀ H' rp, Same H H' → H rp = none → RowAt K H' rp post 0 → Q (.ref rp) H'
theorem ok_Reader_row_behind (T : Top K mg w)  : FnR P w K mg base CX0 4 (He.ma K (He.ga K "Reader") "row_behind") (spRowBehind K) := by
  obtain ⟨fd, F⟩ := T.def_ d_Reader_row_behind (List.mem_of_getElem? (i := 44) rfl)
  refine mkR F sc_Reader_row_behind (fun _ _ _ _ _ _ us hl => match us, hl with | [_, _], _ => rfl) (fun vs H Q E h => ?_) (fun cdv A outer s H vs Q E hr h => ?_)
  · obtain ⟨p, la, ls, k, word, sp, post, rfl, _⟩ := h; rfl
  obtain ⟨p, la, ls, k, word, sp, post, rfl, hrd, hk, hws, q⟩ := h
  have G_Reader_next_line := ok_Reader_next_line (P := P) (w := w) (base := base) T
  have G_Row := ok_Row___init__ (P := P) (w := w) (base := base) T
  refine ⟨_, pss_one (ps_ret (pmk G_Row hr (T.cls "Row" (by decide +kernel)).2 (T.glo "Row" (by decide +kernel)).1 (pa_cons (pe_slice (r := rSlS) sl_str (pe_ix (r := rIxT K) ix_tup (pmeth0' (T.cls "Reader" (by decide +kernel)).1 (T.meth ("Reader", "next_line") (by decide +kernel)) G_Reader_next_line hr (pv 0)) pe_int (fun _ _ => rfl)) (po_some (pe_callB (r := fun xs H Q => ∃ x n, xs = [x] ∧ LenV K x H n ∧ Q (.int n) H) call_len (by rfl) (T.free "len" (by decide +kernel)) (by decide +kernel) (pa_cons (pv 1) pa_nil))) po_none) pa_nil))), ?_⟩
  have zl := line_big
  have hrd0 := hrd
  obtain ⟨hn, hl, dx, hp, hla, nla⟩ := hrd
  walk_at "wp"
  refine ⟨dx, _, hp, rfl, p, la, ls, k, rfl, hrd0, .inr ⟨sp, word ++ post, hk, hws, fun H1 t s1 hT => ?_⟩⟩
  refine ixT_at 1 hT rfl ?_
  have hlen := hl _ (List.mem_of_getElem? hk)
  rw [List.length_append, List.length_replicate, List.length_append] at hlen
  refine ⟨_, ⟨by rw [S_len]; omega, rfl⟩, S (word ++ post), rfl, by rw [S_len, List.length_append]; omega, ?_⟩
  rw [S_len, cutS_from, List.drop_left]
  intro x1 dx1 nx ndx ne
  refine ⟨x1, dx1, _, rfl, upd_same, fun H' x' e' => ⟨rfl, ?_⟩⟩
  have s2 : Same H1 H' := SameX.new nx ndx ne (C := He.ga K "Row") x'
  refine q H' x1 (s1.trans s2) ?_ ⟨by omega, dx1, e'⟩
  cases e : H x1 with
  | none => rfl
  | some u => rw [s1 _ _ e] at nx; cases nx
theorem seq_put {H : Hp} {p C dx la : Addr} {fs : List (Str × V)} {o : HO} {xs : List V} (h : SqL K H la xs) (hp : H p = some (.ins C dx fs)) : SqL K (upd H p o) la xs := by
  rcases h with (h | ⟨ob, h⟩) | h
  · have ne : la ≠ p := by rintro rfl; rw [h] at hp; cases hp
    exact .inl (.inl (by rw [upd_ne ne]; exact h))
  · have ne : la ≠ p := by rintro rfl; rw [h] at hp; cases hp
    exact .inl (.inr ⟨ob, by rw [upd_ne ne]; exact h⟩)
  · exact .inr h
def spEndRow (K : PySem.W.Frag) : Sp := fun vs H Q _ => ∃ p la ls k rp L, vs = [.ref p, .ref rp] ∧ RdAt K H p la ls k ∧ RowAt K H rp L L.length ∧ ∀ H', SX p H H' → RdAt K H' p la ls (k + 1) → Q .non H'
theorem ok_Reader_end_row (T : Top K mg w)  : FnR P w K mg base CX0 2 (He.ma K (He.ga K "Reader") "end_row") (spEndRow K) := by
  obtain ⟨fd, F⟩ := T.def_ d_Reader_end_row (List.mem_of_getElem? (i := 45) rfl)
  refine mkR F sc_Reader_end_row (fun _ _ _ _ _ _ us hl => match us, hl with | [_, _], _ => rfl) (fun vs H Q E h => ?_) (fun cdv A outer s H vs Q E hr h => ?_)
  · obtain ⟨p, la, ls, k, rp, L, rfl, _⟩ := h; rfl
  obtain ⟨p, la, ls, k, rp, L, rfl, hrd, hrow, q⟩ := h
  have G_Row_is_read := ok_Row_is_read (P := P) (w := w) (base := base) T
  refine ⟨_, pss_cons (ps_if (pt_not (pt_val (pmeth0' (T.cls "Row" (by decide +kernel)).1 (T.meth ("Row", "is_read") (by decide +kernel)) G_Row_is_read hr (pv 1)))) (pss_one ps_never) pss_nil)
    (pss_one (ps_fldaug (pv 0) pe_int in_add)), ?_⟩
  have zl := line_big
  have c := (T.cls "Reader" (by decide +kernel)).1
  have cn (f : Str) (hf : f ∈ RDF) : NoAttr K (He.ga K "Reader") f := T.noat ("Reader", f) (rdf hf)
  have hrow0 := hrow
  obtain ⟨hl, dxr, hpr⟩ := hrow
  obtain ⟨hn, hls, dx, hp, hla, nla⟩ := hrd
  walk_at "st"
  refine ⟨dxr, _, hpr, rfl, rp, L, rfl, hrow0, ⟨_, rfl, iteFb rfl ?_⟩⟩
  walk_at "wp"
  have hlu : SqL K (upd H p (.ins (He.ga K "Reader") dx [("lines", .ref la), ("line_at", .int ((k + 1 : Nat) : Int))])) la (ls.map fun l => V.str (S l)) := seq_put hla hp
  exact ⟨_, dx, _, hp, c, cn "line_at" (by decide), _, rfl, _, _, rfl, rfl, dx, _, hp, Nat.lt_of_sub_eq_succ rfl, q _ (.put hp _) ⟨hn, hls, dx, by rw [upd_same]; rfl, hlu, nla⟩⟩
end
end K91
set_option Elab.async false
set_option linter.all false
set_option maxRecDepth 100000
set_option maxHeartbeats 8000000
namespace K91
open PySem PySem.Spec PyProof.Rows L2 _root_.SX PySem.NumText
local macro_rules | `(tactic| walk_at "wp") => `(tactic| try simp only [cxK, cxw, cxK', cxw', start1, start2, start3, start4, start5, tRet, tRetN, tAsg, gName, gTup, gCons, gNil, gSub, tDrop, tNext, tIfS, tIf, tVar, tC, tAndV, tOrV, tNotV, tAnd, tOr, tNot, tTest, tB, tCB, tCons, tNil, tOp, tUn, rI0, rI, rU, rEq, rNe, rIn, tChain, tFld, sFld, tSl, tPart, tNoPart, tTup, tLst, tCallR, tMethR, tMethO, tBM, tBM0, tM0, tM1, tDGet, tDIn, tDNotIn, tDNewK, tCmp, t2I, tIsN, tNotN, tYes, tLc_eq, tFor_eq, tLenSetN, iItems, iVals, iKeys, iRng1, tLock, tLockE, tCallKw, tMakeKw, tMethKw, StX.tMakeR, tDc_eq, tLc2_eq, sFldAug, rMulS, tListVals, LiI.tListItems, LiI.rItemsL, RZ.iZipA, iStr, iTup, iList, iEnum, iEnumT, tDGet1, tDGet2, tDisp, tPairs, wipe, List.map_cons, List.map_nil,
  List.length_cons, List.length_nil, Nat.reduceAdd, Nat.reduceSub, List.replicate_succ, List.replicate_zero, if_true, if_false, Bool.not_true, Bool.not_false, Bool.false_eq_true, reduceIte,
  List.set_cons_zero, List.set_cons_succ, List.getElem?_cons_zero, List.getElem?_cons_succ, Option.some.injEq, exists_eq_left', exists_eq_left, V.int.injEq, V.str.injEq, V.bl.injEq, V.ref.injEq, V.ty.injEq, List.cons.injEq, and_true, true_and, and_assoc, exists_and_left, List.nil_append, List.cons_append, List.append_nil])
local macro_rules | `(tactic| walk_at "st") => `(tactic| (refine sq ?_; walk_at "wp"))
section
variable {P : Program} {w : World} {K : PySem.W.Frag} {mg : Str → Option Value} {base : Heap}
def boxW : List Nat := [98, 111, 120]
def boxC (b : Box91) : List Nat := boxW ++ (32 :: (b.name.cps.toList ++ 32 :: (b.rule.cps.toList ++ 32 :: numC b.val)))
/-- a line that is no box -/
def otherLine (word : List Nat) (l : List Nat) : Prop := ∃ sp ws w1, l = List.replicate sp 32 ++ ws ∧ (∀ c r, ws = c :: r → c ≠ 32) ∧ firstW ws w1 ∧ w1 ≠ word
theorem rule_name {x : Str} (h : x ∈ rulesL) : nameB x = true := by
  have z : ∀ q ∈ rulesL, nameB q = true := by decide +kernel
  exact z x h
theorem SX.via {p rp : Addr} {H H3 H4 : Hp} (a : SX p H H3) (n : H rp = none) (b : SX rp H3 H4) : SX p H H4 := ⟨fun c u hc e => by
    have hn : c ≠ rp := by rintro rfl; rw [n] at e; cases e
    exact b.x c u hn (a.x c u hc e), a.t.trans b.t⟩
theorem RdAt.sx {H H' : Hp} {p la rp C dx : Addr} {fs : List (Str × V)} {ls : List (List Nat)} {k : Nat} (h : RdAt K H p la ls k) (s : SX rp H H') (hr : H rp = some (.ins C dx fs)) (ne : p ≠ rp) : RdAt K H' p la ls k := by
  obtain ⟨a, b, dx, e, e2, e3⟩ := h
  refine ⟨a, b, dx, s.x _ _ ne e, ?_, e3⟩
  rcases e2 with (h | ⟨ob, h⟩) | h
  · exact .inl (.inl (s.x _ _ (by rintro rfl; rw [h] at hr; cases hr) h))
  · exact .inl (.inr ⟨ob, s.x _ _ (by rintro rfl; rw [h] at hr; cases hr) h⟩)
  · exact .inr h
theorem RdAt.at {H H' : Hp} {p la f : Addr} {ls : List (List Nat)} {k k0 : Nat} {o : HO} (h : RdAt K H' p la ls k) (nf : H f = none) (h0 : RdAt K H p la ls k0) (nfp : f ≠ p) : RdAt K (upd H' f o) p la ls k := by
  obtain ⟨a, b, dx, e, e2, e3⟩ := h
  obtain ⟨_, _, _, _, d2, _⟩ := h0
  refine ⟨a, b, dx, by rw [upd_ne (Ne.symm nfp)]; exact e, ?_, e3⟩
  rcases d2 with h | h
  · have ne : la ≠ f := by
      rintro rfl
      rcases h with h | ⟨_, h⟩ <;> (rw [nf] at h; cases h)
    rcases e2 with (h | ⟨ob, h⟩) | h
    · exact .inl (.inl (by rw [upd_ne ne]; exact h))
    · exact .inl (.inr ⟨ob, by rw [upd_ne ne]; exact h⟩)
    · exact .inr h
  · exact .inr h
def spBoxesR (K : PySem.W.Frag) : Sp := fun vs H Q _ => ∃ p la ls bs, vs = [.ref p] ∧ RdAt K H p la ls 0 ∧ boxesOk bs ∧ (∀ (i : Nat) (b : Box91), bs[i]? = some b → ls[i]? = some (boxC b)) ∧ (∃ l, ls[bs.length]? = some l ∧ otherLine boxW l) ∧
  ∀ H' l, SX p H H' → RdAt K H' p la ls bs.length → H l = none → RowsAt K H' l bs → Q (.ref l) H'
theorem ok_Reader_boxes (T : Top K mg w)  : FnR P w K mg base CX0 16 (He.ma K (He.ga K "Reader") "boxes") (spBoxesR K) := by
  obtain ⟨fd, F⟩ := T.def_ d_Reader_boxes (List.mem_of_getElem? (i := 46) rfl)
  refine mkR F sc_Reader_boxes (fun _ _ _ _ _ _ us hl => match us, hl with | [_], _ => rfl) (fun vs H Q E h => ?_) (fun cdv A outer s H vs Q E hr h => ?_)
  · obtain ⟨p, la, ls, bs, rfl, _⟩ := h; rfl
  obtain ⟨p, la, ls, bs, rfl, hrd, hb, hls, ⟨lo, hlo, hother⟩, q⟩ := h
  have G_Reader_is_next := ok_Reader_is_next (P := P) (w := w) (base := base) T
  have G_Reader_row_behind := ok_Reader_row_behind (P := P) (w := w) (base := base) T
  have G_Reader_end_row := ok_Reader_end_row (P := P) (w := w) (base := base) T
  have G_Row_next_part := ok_Row_next_part (P := P) (w := w) (base := base) T
  refine ⟨_, pss_cons (ps_set (i := 1) sc_Reader_boxes.nd rfl (by first | exact Or.inl rfl | exact Or.inr rfl) (pe_lst pa_nil))
    (pss_cons (ps_while PassesOwn.never (pt_val (pe_methR (pv 0) (T.cls "Reader" (by decide +kernel)).1 (T.meth ("Reader", "is_next") (by decide +kernel)) G_Reader_is_next (hr.mono (by omega)) pass0 (pa_cons pe_int (pa_cons pe_str pa_nil))))
    (pss_cons (ps_set (i := 2) sc_Reader_boxes.nd rfl (by first | exact Or.inl rfl | exact Or.inr rfl) (pe_methR (pv 0) (T.cls "Reader" (by decide +kernel)).1 (T.meth ("Reader", "row_behind") (by decide +kernel)) G_Reader_row_behind (hr.mono (by omega)) pass0 (pa_cons pe_str pa_nil)))
    (pss_cons (ps_par (i := 3) (j := 4) (by rfl) sc_Reader_boxes.nd rfl rfl (by decide) rfl rfl (pa_cons (pe_methR (pv 2) (T.cls "Row" (by decide +kernel)).1 (T.meth ("Row", "next_part") (by decide +kernel)) G_Row_next_part (hr.mono (by omega)) pass0 (pa_cons pe_str pa_nil)) (pa_cons (pe_methR (pv 2) (T.cls "Row" (by decide +kernel)).1 (T.meth ("Row", "next_part") (by decide +kernel)) G_Row_next_part (hr.mono (by omega)) pass0 (pa_cons pe_str pa_nil)) pa_nil)) (by rfl))
    (pss_cons (ps_expr (pe_bm PySem.F.plainAttrs_list PySem.F.slot_list_append PySem.F.type_list_append mt_append (pv 1) (pa_cons (pe_tup (pa_cons (pv 3) (pa_cons (pv 4) (pa_cons (pe_methR (pv 2) (T.cls "Row" (by decide +kernel)).1 (T.meth ("Row", "next_part") (by decide +kernel)) G_Row_next_part (hr.mono (by omega)) pass0 (pa_cons pe_str pa_nil)) pa_nil)))) pa_nil)))
    (pss_cons (ps_if (pt_cmpR (r := rIn K true) op_notIn_seq (pv 4) (pe_gref (T.ref "RULES" (by decide +kernel))) rfl) (pss_one ps_never) pss_nil)
    (pss_one (ps_expr (pe_methR (pv 0) (T.cls "Reader" (by decide +kernel)).1 (T.meth ("Reader", "end_row") (by decide +kernel)) G_Reader_end_row (hr.mono (by omega)) pass0 (pa_cons (pv 2) pa_nil)))))))))
    (pss_one (ps_ret (pv 1)))), ?_⟩
  have zl := line_big
  have hrd00 := hrd
  obtain ⟨hn, hl, dx, hp, hla, nla⟩ := hrd
  refine sq ?_
  walk_at "wp"
  refine ⟨Nat.zero_le _, fun f nf => ?_⟩
  have nfp : f ≠ p := by rintro rfl; rw [hp] at nf; cases nf
  have s0 := same_new nf (.lst [])
  refine sq ?_
  refine ⟨fun m σ H' => ∃ x2 x3 x4, σ = [some (V.ref p), some (V.ref f), x2, x3, x4] ∧ ∃ i vs, m = bs.length - i ∧ i ≤ bs.length ∧ SX p H H' ∧ RdAt K H' p la ls i ∧ H' f = some (.lst vs) ∧ DtAll K H' vs ((bs.take i).map Box91.data), ⟨bs.length, _, _, _, rfl, 0, [], rfl, Nat.zero_le _, .of s0, ⟨hn, hl, dx, s0 _ _ hp, s0.seq hla, nla⟩, upd_same, .nil⟩, ?_⟩
  rintro m σ H1 ⟨x2, x3, x4, rfl, i, vs, rfl, hi, X1, hrd1, ef, hvs⟩
  have hrd1' := hrd1
  obtain ⟨_, _, dx1, hp1, hla1, nla1⟩ := hrd1'
  walk_at "wp"
  refine ⟨dx1, _, hp1, rfl, p, la, ls, i, 0, boxW, rfl, hrd1, by omega, ?_⟩
  by_cases hi2 : i < bs.length
  · have eb : bs[i]? = some (bs[i]'hi2) := List.getElem?_eq_getElem hi2
    generalize bs[i]'hi2 = b at eb
    have el := hls i b eb
    obtain ⟨b1, b2, b3, b4⟩ := hb.2.1 b (List.mem_of_getElem? eb)
    refine .inr ⟨0, boxC b, boxW, by simpa using el, fun c r e => by rw [boxC, boxW] at e; have := (List.cons.inj e).1; omega, ⟨by decide, .inr ⟨_, rfl⟩⟩, fun H2 s2 => ⟨_, rfl, ?_⟩⟩
    refine iteTb (by simp) ⟨fun σ' H' => ∃ x2 x3 x4, σ' = [some (V.ref p), some (V.ref f), x2, x3, x4] ∧ ∃ vs, SX p H H' ∧ RdAt K H' p la ls (i + 1) ∧ H' f = some (.lst vs) ∧ DtAll K H' vs ((bs.take (i + 1)).map Box91.data), ?_, ?_⟩
    · rintro σ' H' ⟨x2, x3, x4, e, vs', a1, a2, a3, a4⟩
      exact ⟨bs.length - (i + 1), by omega, x2, x3, x4, e, i + 1, rfl, hi2, a1, a2, vs', a3, a4⟩
    refine sq ?_
    walk_at "wp"
    refine ⟨dx1, _, s2 _ _ hp1, rfl, p, la, ls, i, boxW, 0, _, rfl, hrd1.same s2, by simpa [boxC] using el, fun c r e => by rw [boxW] at e; have := (List.cons.inj e).1; omega, fun H3 rp s3 nrp hrow => ?_⟩
    have nrpH : H rp = none := by
      cases e : H rp with
      | none => rfl
      | some u =>
        by_cases z : rp = p
        · rw [z] at nrp
          rw [s2 _ _ hp1] at nrp
          cases nrp
        · rw [s2 _ _ (X1.x _ _ z e)] at nrp; cases nrp
    have nprp : p ≠ rp := by rintro rfl; rw [hp] at nrpH; cases nrpH
    have s23 := s2.trans s3
    have X3 := X1.trans (.of s23)
    have hrd3 := hrd1.same s23
    have ef3 := s23 _ _ ef
    have hvs3 := hvs.keep (tups_of s23)
    have nfrp : f ≠ rp := by rintro rfl; rw [s2 _ _ ef] at nrp; cases nrp
    have hr3 := hrow
    obtain ⟨lrow, dr, er⟩ := hr3
    have n1 := name_len b1
    have n2 := rule_name b2
    have n3 := limit_abs b3 b4
    refine sq ?_
    walk_at "wp"
    simp only [tPar]
    walk_at "wp"
    have en : exprC 6 (.str b.name) = b.name.cps.toList := exprC_str 6 _
    have eru : exprC 6 (.str b.rule) = b.rule.cps.toList := exprC_str 6 _
    have ev : exprC 6 (.int b.val) = numC b.val := exprC_int 6 _
    have ep1 : partC "name" (.str b.name) = 32 :: b.name.cps.toList := by rw [← en]; rfl
    have ep2 : partC "expression" (.str b.rule) = 32 :: b.rule.cps.toList := by rw [← eru]; rfl
    have ep3 : partC "jump" (.int b.val) = 32 :: numC b.val := by rw [← ev]; rfl
    have g1 : 32 :: (b.name.cps.toList ++ 32 :: (b.rule.cps.toList ++ 32 :: numC b.val)) = [] ++ partC "name" (.str b.name) ++ (32 :: (b.rule.cps.toList ++ 32 :: numC b.val)) := by rw [ep1]; simp
    have g2 : 32 :: (b.name.cps.toList ++ 32 :: (b.rule.cps.toList ++ 32 :: numC b.val)) = ([] ++ partC "name" (.str b.name)) ++ partC "expression" (.str b.rule) ++ (32 :: numC b.val) := by rw [ep1, ep2]; simp
    have g3 : 32 :: (b.name.cps.toList ++ 32 :: (b.rule.cps.toList ++ 32 :: numC b.val)) = ([] ++ partC "name" (.str b.name) ++ partC "expression" (.str b.rule)) ++ partC "jump" (.int b.val) ++ [] := by rw [ep1, ep2, ep3]; simp
    refine ⟨dr, _, er, rfl, rp, "name", [], _, .str b.name, rfl, by rw [← g1]; exact hrow, ⟨fun z => absurd z (by decide), fun _ => ⟨_, rfl, b1⟩, fun z => absurd z (by decide), fun _ => b1⟩, fun _ _ e => .inl (List.cons.inj e).1.symm, fun H4 v1 X4 hr4 gv1 => ?_⟩
    rw [← g1] at hr4
    have hr4' := hr4
    obtain ⟨_, dr4, er4⟩ := hr4'
    refine ⟨dr4, _, er4, rfl, rp, "expression", _, _, .str b.rule, rfl, by rw [← g2]; exact hr4, ⟨fun z => absurd z (by decide), fun z => absurd z (by decide), fun z => absurd z (by decide), fun _ => n2⟩, fun _ _ e => .inl (List.cons.inj e).1.symm, fun H5 v2 X5 hr5 gv2 => ?_⟩
    rw [← g2] at hr5
    have hr5' := hr5
    obtain ⟨_, dr5, er5⟩ := hr5'
    obtain ⟨rfl, _⟩ := gv1.strI
    obtain ⟨rfl, _⟩ := gv2.strI
    refine sq ?_
    walk_at "wp"
    have ef5 : H5 f = some (.lst vs) := X5.x _ _ nfrp (X4.x _ _ nfrp ef3)
    refine ⟨tyL ef5, dr5, _, er5, rfl, rp, "jump", _, [], .int b.val, rfl, by rw [← g3]; exact hr5, ⟨fun z => absurd z (by decide), fun z => absurd z (by decide), fun _ => ⟨_, rfl, n3⟩, fun _ => decide_eq_true n3⟩, (fun _ _ e => by cases e), fun H6 v3 X6 hr6 gv3 => ?_⟩
    rw [← g3] at hr6
    obtain rfl := gv3.intI
    have hr6' := hr6
    obtain ⟨_, dr6, er6⟩ := hr6'
    have X46 := (X4.trans X5).trans X6
    have ef6 : H6 f = some (.lst vs) := X6.x _ _ nfrp ef5
    have lvs := dta_len hvs
    rw [List.length_map, List.length_take] at lvs
    refine ⟨by decide, fun t nt => ?_⟩
    have s7 := same_new nt (.tup [.str b.name, .str b.rule, .int b.val])
    have ef7 := s7 _ _ ef6
    refine app_ask ef7 (by have := hb.1; omega) ?_
    have t8 := tups_lst ef7 (.lst (vs ++ [.ref t]))
    have X7 := (X3.via nrpH X46).trans (.of s7)
    have X8 := X7.at nf (.lst (vs ++ [.ref t]))
    have hrd7 := (hrd3.sx X46 er nprp).same s7
    have hrd8 : RdAt K (upd (upd H6 t (.tup [.str b.name, .str b.rule, .int b.val])) f (.lst (vs ++ [.ref t]))) p la ls i := by
      exact hrd7.at nf hrd00 nfp
    have er8 : (upd (upd H6 t (.tup [.str b.name, .str b.rule, .int b.val])) f (.lst (vs ++ [.ref t]))) rp = some (.ins (He.ga K "Row") dr6 [("text", .str (S (32 :: (b.name.cps.toList ++ 32 :: (b.rule.cps.toList ++ 32 :: numC b.val))))), ("at", .int (([] ++ partC "name" (.str b.name) ++ partC "expression" (.str b.rule) ++ partC "jump" (.int b.val)).length : Nat)), ("has_failed", .bl false)]) := by
      rw [upd_ne (Ne.symm nfrp)]
      exact s7 _ _ er6
    have gt : Dt K (upd (upd H6 t (.tup [.str b.name, .str b.rule, .int b.val])) f (.lst (vs ++ [.ref t]))) (.ref t) b.data := .tup (t8.sqT (.inl (.inl upd_same))) (.cons (.str _ (by omega)) (.cons (.str _ (by have := rule_len b2; omega)) (.cons (.int _) .nil)))
    have hvs8 : DtAll K (upd (upd H6 t (.tup [.str b.name, .str b.rule, .int b.val])) f (.lst (vs ++ [.ref t]))) (vs ++ [.ref t]) ((bs.take (i + 1)).map Box91.data) := by
      rw [List.take_add_one, eb, List.map_append]
      exact dta_app (hvs3.keep ((X46.t.trans (tups_of s7)).trans t8)) (.cons gt .nil)
    refine sq ?_
    walk_at "wp"
    refine ⟨_, .inr (T.tup ("RULES", rulesL) (by decide +kernel) _), rfl, rfl, ?_⟩
    rw [show ("RULES", rulesL).2 = rulesL from rfl, in_strs]
    refine iteFb (by simpa using b2) ?_
    have hrd8' := hrd8
    obtain ⟨_, _, dx8, hp8, _, _⟩ := hrd8'
    have eL : ([] ++ partC "name" (.str b.name) ++ partC "expression" (.str b.rule) ++ partC "jump" (.int b.val)).length = (32 :: (b.name.cps.toList ++ 32 :: (b.rule.cps.toList ++ 32 :: numC b.val))).length := by rw [g3, List.append_nil]
    rw [eL] at er8
    exact ⟨dx8, _, hp8, rfl, p, la, ls, i, rp, _, rfl, hrd8, ⟨lrow, dr6, er8⟩, fun H9 X9 hrd9 => ⟨X8.trans X9, hrd9, _, X9.x _ _ nfp upd_same, hvs8.keep X9.t⟩⟩
  · have ei : i = bs.length := by omega
    subst ei
    obtain ⟨sp, ws, w1, rfl, h1, h2, h3⟩ := hother
    refine .inr ⟨sp, ws, w1, hlo, h1, h2, fun H2 s2 => ⟨_, rfl, ?_⟩⟩
    refine iteFb (by rw [decide_eq_false h3, Bool.and_false]) ?_
    rw [List.take_of_length_le (Nat.le_refl _)] at hvs
    walk_at "wp"
    exact q H2 f (X1.trans (.of s2)) (hrd1.same s2) nf ⟨vs, s2 _ _ ef, hvs.keep (tups_of s2)⟩
end
end K91
set_option Elab.async false
set_option linter.all false
set_option maxRecDepth 100000
set_option maxHeartbeats 8000000
namespace K91
open PySem PySem.Spec PyProof.Rows L2 _root_.SX PySem.NumText
local macro_rules | `(tactic| walk_at "wp") => `(tactic| try simp only [cxK, cxw, cxK', cxw', start1, start2, start3, start4, start5, tRet, tRetN, tAsg, gName, gTup, gCons, gNil, gSub, tDrop, tNext, tIfS, tIf, tVar, tC, tAndV, tOrV, tNotV, tAnd, tOr, tNot, tTest, tB, tCB, tCons, tNil, tOp, tUn, rI0, rI, rU, rEq, rNe, rIn, tChain, tFld, sFld, tSl, tPart, tNoPart, tTup, tLst, tCallR, tMethR, tMethO, tBM, tBM0, tM0, tM1, tDGet, tDIn, tDNotIn, tDNewK, tCmp, t2I, tIsN, tNotN, tYes, tLc_eq, tFor_eq, tLenSetN, iItems, iVals, iKeys, iRng1, tLock, tLockE, tCallKw, tMakeKw, tMethKw, StX.tMakeR, tDc_eq, tLc2_eq, sFldAug, rMulS, tListVals, LiI.tListItems, LiI.rItemsL, RZ.iZipA, iStr, iTup, iList, iEnum, iEnumT, tDGet1, tDGet2, tDisp, tPairs, wipe, List.map_cons, List.map_nil,
  List.length_cons, List.length_nil, Nat.reduceAdd, Nat.reduceSub, List.replicate_succ, List.replicate_zero, if_true, if_false, Bool.not_true, Bool.not_false, Bool.false_eq_true, reduceIte,
  List.set_cons_zero, List.set_cons_succ, List.getElem?_cons_zero, List.getElem?_cons_succ, Option.some.injEq, exists_eq_left', exists_eq_left, V.int.injEq, V.str.injEq, V.bl.injEq, V.ref.injEq, V.ty.injEq, List.cons.injEq, and_true, true_and, and_assoc, exists_and_left, List.nil_append, List.cons_append, List.append_nil])
local macro_rules | `(tactic| walk_at "st") => `(tactic| (refine sq ?_; walk_at "wp"))
section
variable {P : Program} {w : World} {K : PySem.W.Frag} {mg : Str → Option Value} {base : Heap}
theorem SX.fresh {p l : Addr} {u : HO} {H H' : Hp} (s : SX p H H') (hp : H' p = some u) (n : H' l = none) : H l = none ∧ l ≠ p := by
  have ne : l ≠ p := by rintro rfl; rw [hp] at n; cases n
  refine ⟨?_, ne⟩
  cases e : H l with
  | none => rfl
  | some u => rw [s.x _ _ ne e] at n; cases n
def handleC : List Nat := (("handle" : String) : Str).cps.toList
/-- the line between two bodies -/
def spMiddle (K : PySem.W.Frag) : Sp := fun vs H Q _ => ∃ p la ls k, ∃ depth : Nat, ∃ word post, ∃ xs : List Str, vs = [.ref p, .int depth, .str (S word)] ∧ RdAt K H p la ls k ∧ depth ≤ 1000 ∧ ls[k]? = some (List.replicate (depth * 2) 32 ++ (word ++ post)) ∧
  (∀ c r, word ++ post = c :: r → c ≠ 32) ∧ 32 ∉ word ∧ ((word = handleC ∧ ∃ x, nameB x = true ∧ post = 32 :: x.cps.toList ∧ xs = [x]) ∨ (word ≠ handleC ∧ post = [] ∧ xs = [])) ∧
  ∀ H' l, SX p H H' → RdAt K H' p la ls (k + 1) → H l = none → H' l = some (.lst (xs.map V.str)) → Q (.ref l) H'
theorem ok_Reader_middle (T : Top K mg w)  : FnR P w K mg base CX0 16 (He.ma K (He.ga K "Reader") "middle") (spMiddle K) := by
  obtain ⟨fd, F⟩ := T.def_ d_Reader_middle (List.mem_of_getElem? (i := 50) rfl)
  refine mkR F sc_Reader_middle (fun _ _ _ _ _ _ us hl => match us, hl with | [_, _, _], _ => rfl) (fun vs H Q E h => ?_) (fun cdv A outer s H vs Q E hr h => ?_)
  · obtain ⟨p, la, ls, k, depth, word, post, xs, rfl, _⟩ := h; rfl
  obtain ⟨p, la, ls, k, depth, word, post, xs, rfl, hrd, hdep, hk, hws, hw32, hcase, q⟩ := h
  have G_Reader_is_next := ok_Reader_is_next (P := P) (w := w) (base := base) T
  have G_Reader_row_behind := ok_Reader_row_behind (P := P) (w := w) (base := base) T
  have G_Reader_end_row := ok_Reader_end_row (P := P) (w := w) (base := base) T
  have G_Row_next_part := ok_Row_next_part (P := P) (w := w) (base := base) T
  refine ⟨_, pss_cons (ps_if (pt_not (pt_val (pe_methR (pv 0) (T.cls "Reader" (by decide +kernel)).1 (T.meth ("Reader", "is_next") (by decide +kernel)) G_Reader_is_next (hr.mono (by omega)) pass0 (pa_cons (pv 1) (pa_cons (pv 2) pa_nil))))) (pss_one ps_never) pss_nil)
    (pss_cons (ps_set (i := 3) sc_Reader_middle.nd rfl (by first | exact Or.inl rfl | exact Or.inr rfl) (pe_methR (pv 0) (T.cls "Reader" (by decide +kernel)).1 (T.meth ("Reader", "row_behind") (by decide +kernel)) G_Reader_row_behind (hr.mono (by omega)) pass0 (pa_cons (pv 2) pa_nil)))
    (pss_cutK (ps_set (i := 4) sc_Reader_middle.nd rfl (by first | exact Or.inl rfl | exact Or.inr rfl) (pe_ifExp (pt_cmpR (op_eq) (pv 2) (pe_gstr (T.str ("HANDLE", "handle") (by decide +kernel))) (nomark _)) (pe_lst (pa_cons (pe_methR (pv 3) (T.cls "Row" (by decide +kernel)).1 (T.meth ("Row", "next_part") (by decide +kernel)) G_Row_next_part (hr.mono (by omega)) pass0 (pa_cons pe_str pa_nil)) pa_nil)) (pe_lst pa_nil)))
    (pss_cons (ps_expr (pe_methR (pv 0) (T.cls "Reader" (by decide +kernel)).1 (T.meth ("Reader", "end_row") (by decide +kernel)) G_Reader_end_row (hr.mono (by omega)) pass0 (pa_cons (pv 3) pa_nil)))
    (pss_one (ps_ret (pv 4)))))), ?_⟩
  have zl := line_big
  have hrd00 := hrd
  obtain ⟨hn, hl, dx, hp, hla, nla⟩ := hrd
  have hfw : firstW (word ++ post) word := ⟨hw32, by
    rcases hcase with ⟨_, x, _, rfl, _⟩ | ⟨_, rfl, _⟩
    · exact .inr ⟨_, rfl⟩
    · exact .inl (by simp)⟩
  refine sq ?_
  walk_at "wp"
  refine ⟨dx, _, hp, rfl, p, la, ls, k, depth, word, rfl, hrd00, hdep, .inr ⟨depth * 2, word ++ post, word, hk, hws, hfw, fun H1 s1 => ⟨_, rfl, iteFb (by simp) ?_⟩⟩⟩
  refine sq ?_
  walk_at "wp"
  refine ⟨dx, _, s1 _ _ hp, rfl, p, la, ls, k, word, depth * 2, post, rfl, hrd00.same s1, hk, hws, fun H2 rp s2 nrp hrow => ?_⟩
  have s12 := s1.trans s2
  have nrpH : H rp = none := by
    cases e : H rp with
    | none => rfl
    | some u => rw [s1 _ _ e] at nrp; cases nrp
  have nprp : p ≠ rp := by rintro rfl; rw [hp] at nrpH; cases nrpH
  have hrow' := hrow
  obtain ⟨lrow, dr, er⟩ := hrow'
  refine cutI (fun σ H' => ∃ l, σ = [some (V.ref p), some (V.int (depth : Nat)), some (V.str (S word)), some (V.ref rp), some (V.ref l)] ∧ SX p H H' ∧ RdAt K H' p la ls k ∧ RowAt K H' rp post post.length ∧ H l = none ∧ H' l = some (.lst (xs.map V.str)) ∧ l ≠ p ∧ l ≠ rp) ?_ ?_
  · walk_at "wp"
    rcases hcase with ⟨rfl, x, hx, rfl, rfl⟩ | ⟨hnw, rfl, rfl⟩
    · refine ⟨rfl, iteTb (decide_eq_true rfl) ?_⟩
      have ex : exprC 6 (.str x) = x.cps.toList := exprC_str 6 _
      have ep1 : partC "name" (.str x) = 32 :: x.cps.toList := by rw [← ex]; rfl
      have g1 : 32 :: x.cps.toList = [] ++ partC "name" (.str x) ++ [] := by rw [ep1]; simp
      refine ⟨dr, _, er, rfl, rp, "name", [], [], .str x, rfl, by rw [← g1]; exact hrow, ⟨fun z => absurd z (by decide), fun _ => ⟨_, rfl, hx⟩, fun z => absurd z (by decide), fun _ => hx⟩, (fun _ _ e => by cases e), fun H3 v X3 hr3 gv => ?_⟩
      obtain ⟨rfl, _⟩ := gv.strI
      have X13 := (SX.of s12 (p := p)).via nrpH X3
      have hrd3 := (hrd00.same s12).sx X3 er nprp
      refine ⟨by decide, fun lp nlp => ?_⟩
      obtain ⟨_, _, dx3, hp3, _, _⟩ := id hrd3
      obtain ⟨f1, f2⟩ := X13.fresh hp3 nlp
      have s4 := same_new nlp (.lst [V.str x])
      rw [← g1] at hr3
      have e3 : ([] ++ partC "name" (.str x)).length = (32 :: x.cps.toList).length := by rw [ep1]; rfl
      rw [e3] at hr3
      obtain ⟨_, dr3, er3⟩ := id hr3
      exact ⟨X13.trans (.of s4), hrd3.same s4, hr3.same s4, f1, upd_same, f2, by rintro rfl; rw [er3] at nlp; cases nlp⟩
    · refine ⟨rfl, iteFb (decide_eq_false fun z => hnw (S_inj z)) ⟨Nat.zero_le _, fun lp nlp => ?_⟩⟩
      obtain ⟨f1, f2⟩ := (SX.of s12 (p := p)).fresh (s12 _ _ hp) nlp
      have s4 := same_new nlp (.lst [])
      exact ⟨(SX.of s12).trans (.of s4), (hrd00.same s12).same s4, hrow.same s4, f1, upd_same, f2, by rintro rfl; rw [er] at nlp; cases nlp⟩
  · rintro σ H3 ⟨l, rfl, X3, hrd3, hrow3, nl, el, nlp, nlrp⟩
    obtain ⟨_, _, dx3, hp3, _, _⟩ := id hrd3
    refine sq ?_
    walk_at "wp"
    refine ⟨dx3, _, hp3, rfl, p, la, ls, k, rp, post, rfl, hrd3, hrow3, fun H4 X4 hrd4 => ?_⟩
    walk_at "wp"
    exact q H4 l (X3.trans X4) hrd4 nl (X4.x _ _ nlp el)
end
end K91
set_option Elab.async false
set_option linter.all false
set_option maxRecDepth 100000
set_option maxHeartbeats 4000000
/-! The signs of the lines of a program. -/
namespace K91
open PySem PySem.Spec PyProof.Rows L2 _root_.SX PySem.NumText
theorem mul_codes (n : Nat) (h : n ≤ 100) : (Txt.mul ("  " : String) (n : Int)).cps.toList = List.replicate (n * 2) 32 := by
  have e : ∀ m : Nat, m < 101 → (Txt.mul ("  " : String) (m : Int)).cps.toList = List.replicate (m * 2) 32 := by decide +kernel
  exact e n (by omega)
theorem join_codes : ∀ (wd : Str) (r : List Str), (Txt.join " " (wd :: r)).cps.toList = wd.cps.toList ++ r.flatMap fun x => 32 :: x.cps.toList
  | wd, [] => by
    rw [join_str]
    show wd.cps.toList = _
    simp
  | wd, y :: r => by
    have ih := join_codes y r
    rw [join_str] at ih ⊢
    show (wd ++ ((" " : String) : Str) ++ Str.join " " (y :: r)).cps.toList = _
    rw [cps_app, cps_app, ih]
    have e3 : ((" " : String) : Str).cps.toList = [32] := rfl
    rw [e3]
    simp
theorem ind_codes (dp : Nat) (h : dp ≤ 100) (wd : Str) (r : List Str) : (indT dp (wd :: r)).cps.toList = List.replicate (dp * 2) 32 ++ (wd.cps.toList ++ r.flatMap fun x => 32 :: x.cps.toList) := by
  unfold indT
  rw [cps_app, mul_codes dp h, join_codes]
/-- these lines stand at k -/
def LinesAt (ls : List (List Nat)) (k : Nat) (xs : List Str) : Prop := ∀ (j : Nat) (x : Str), xs[j]? = some x → ls[k + j]? = some x.cps.toList
theorem LinesAt.left {ls : List (List Nat)} {k : Nat} {xs ys : List Str} (h : LinesAt ls k (xs ++ ys)) : LinesAt ls k xs := fun j x e => h j x (by
  rw [List.getElem?_append_left (List.getElem?_eq_some_iff.mp e).1]
  exact e)
theorem LinesAt.right {ls : List (List Nat)} {k : Nat} {xs ys : List Str} (h : LinesAt ls k (xs ++ ys)) : LinesAt ls (k + xs.length) ys := fun j x e => by
  have := h (xs.length + j) x (by rw [List.getElem?_append_right (by omega), Nat.add_sub_cancel_left]; exact e)
  rw [Nat.add_assoc]
  exact this
theorem LinesAt.head {ls : List (List Nat)} {k : Nat} {x : Str} {ys : List Str} (h : LinesAt ls k (x :: ys)) : ls[k]? = some x.cps.toList := h 0 x rfl
theorem LinesAt.tail {ls : List (List Nat)} {k : Nat} {x : Str} {ys : List Str} (h : LinesAt ls k (x :: ys)) : LinesAt ls (k + 1) ys := LinesAt.right (xs := [x]) h
/-- the signs of a line's parts -/
def partsC (ks : List Str) (ps : List PyData) : List Nat := (ks.zip ps).flatMap fun q => if q.1 = ("body" : Str) then [] else partC q.1 q.2
theorem partT_codes (k : Str) (d : PyData) (h : k = "args" → ∃ es, d = .tuple es) : (partT k d).flatMap (fun x => 32 :: x.cps.toList) = if k = ("body" : Str) then [] else partC k d := by
  unfold partT partC
  by_cases c : k = ("args" : Str)
  · obtain ⟨es, rfl⟩ := h c
    have nb : ¬ k = ("body" : Str) := by rw [c]; decide
    rw [if_pos c, if_neg nb, if_pos c]
    unfold argsC
    rw [List.flatMap_map]
    rfl
  · rw [if_neg c]
    by_cases c2 : k = ("body" : Str)
    · rw [if_pos c2, if_pos c2]; rfl
    · rw [if_neg c2, if_neg c2, if_neg c]
      simp [exprC]
theorem words_codes {ks : List Str} {ps : List PyData} (h : ∀ q ∈ ks.zip ps, q.1 = ("args" : Str) → ∃ es, q.2 = .tuple es) : ((ks.zip ps).flatMap fun q => partT q.1 q.2).flatMap (fun x => 32 :: x.cps.toList) = partsC ks ps := by
  unfold partsC
  generalize ks.zip ps = l at h ⊢
  induction l with
  | nil => rfl
  | cons q r ih =>
    rw [List.flatMap_cons, List.flatMap_append, List.flatMap_cons, ih fun q' hq => h q' (List.mem_cons_of_mem _ hq), partT_codes q.1 q.2 (h q List.mem_cons_self)]
end K91
set_option Elab.async false
set_option linter.all false
set_option maxRecDepth 100000
set_option maxHeartbeats 8000000
namespace K91
open PySem PySem.Spec PyProof.Rows L2 _root_.SX PySem.NumText
local macro_rules | `(tactic| walk_at "wp") => `(tactic| try simp only [cxK, cxw, cxK', cxw', start1, start2, start3, start4, start5, tRet, tRetN, tAsg, gName, gTup, gCons, gNil, gSub, tDrop, tNext, tIfS, tIf, tVar, tC, tAndV, tOrV, tNotV, tAnd, tOr, tNot, tTest, tB, tCB, tCons, tNil, tOp, tUn, rI0, rI, rU, rEq, rNe, rIn, tChain, tFld, sFld, tSl, tPart, tNoPart, tTup, tLst, tCallR, tMethR, tMethO, tBM, tBM0, tM0, tM1, tDGet, tDIn, tDNotIn, tDNewK, tCmp, t2I, tIsN, tNotN, tYes, tLc_eq, tFor_eq, tLenSetN, iItems, iVals, iKeys, iRng1, tLock, tLockE, tCallKw, tMakeKw, tMethKw, StX.tMakeR, tDc_eq, tLc2_eq, sFldAug, rMulS, tListVals, LiI.tListItems, LiI.rItemsL, RZ.iZipA, iStr, iTup, iList, iEnum, iEnumT, tDGet1, tDGet2, tDisp, tPairs, wipe, List.map_cons, List.map_nil,
  List.length_cons, List.length_nil, Nat.reduceAdd, Nat.reduceSub, List.replicate_succ, List.replicate_zero, if_true, if_false, Bool.not_true, Bool.not_false, Bool.false_eq_true, reduceIte,
  List.set_cons_zero, List.set_cons_succ, List.getElem?_cons_zero, List.getElem?_cons_succ, Option.some.injEq, exists_eq_left', exists_eq_left, V.int.injEq, V.str.injEq, V.bl.injEq, V.ref.injEq, V.ty.injEq, List.cons.injEq, and_true, true_and, and_assoc, exists_and_left, List.nil_append, List.cons_append, List.append_nil])
local macro_rules | `(tactic| walk_at "st") => `(tactic| (refine sq ?_; walk_at "wp"))
section
variable {P : Program} {w : World} {K : PySem.W.Frag} {mg : Str → Option Value} {base : Heap}
/-- a part that is read back -/
def partR (kind : Str) (d : PyData) : Prop := (kind = "args" → ∃ es, d = .tuple es ∧ (∀ e ∈ es, exprP 6 e = true) ∧ es.length ≤ 100) ∧ (kind = "name" → ∃ x, d = .str x ∧ nameB x = true) ∧ (kind = "jump" → ∃ i, d = .int i ∧ smallI i) ∧ (kind ≠ "args" → exprP 6 d = true)
def stmtR (B : PyData → Prop) (s : PyData) : Prop := ∃ wd ps ks, s = .tuple (.str wd :: ps) ∧ shapeOf wd = some ks ∧ ps.length = ks.length ∧ (∀ q ∈ ks.zip ps, q.1 ≠ ("body" : Str) → partR q.1 q.2) ∧ ∀ b ∈ bodiesL ks ps, B b
def bodyR : Nat → PyData → Prop
  | 0, _ => False
  | n + 1, d => ∃ ds, d = .tuple ds ∧ 1 ≤ ds.length ∧ ds.length ≤ 20 ∧ ∀ s ∈ ds, stmtR (bodyR n) s
/-- the end, or a line further out -/
def TermAt (ls : List (List Nat)) (j d : Nat) : Prop := j = ls.length ∨ ∃ sp ws, ls[j]? = some (List.replicate sp 32 ++ ws) ∧ (∀ c r, ws = c :: r → c ≠ 32) ∧ sp < d * 2
theorem word_codes {wd : Str} {ks : List Str} (h : shapeOf wd = some ks) : nameB (S wd.cps.toList) = true := by
  have z : ∀ q ∈ shapes, nameB (S q.1.cps.toList) = true := by decide +kernel
  exact z _ (shapeOf_mem h)
theorem try_words {wd : Str} {ks : List Str} {ps : List PyData} : ∃ r, wordsT wd ks ps = wd :: r := by
  unfold wordsT
  by_cases c : wd = "try"
  · rw [if_pos c, c]; exact ⟨[], rfl⟩
  · rw [if_neg c]; exact ⟨_, rfl⟩
/-- a statement's first line -/
theorem stmt_first {B : PyData → List Str} {R : PyData → Prop} {dp : Nat} {s : PyData} (h : stmtR R s) (hd : dp ≤ 100) : ∃ x r ws, stmtT B dp s = x :: r ∧ x.cps.toList = List.replicate (dp * 2) 32 ++ ws ∧ ∀ c r, ws = c :: r → c ≠ 32 := by
  obtain ⟨wd, ps, ks, rfl, hk, _⟩ := h
  obtain ⟨r, er⟩ := try_words (wd := wd) (ks := (shapeOf wd).getD []) (ps := ps)
  have hw := word_codes hk
  refine ⟨indT dp (wordsT wd ((shapeOf wd).getD []) ps), _, wd.cps.toList ++ r.flatMap fun x => 32 :: x.cps.toList, rfl, by rw [er, ind_codes dp hd], fun c t e => ?_⟩
  cases e2 : wd.cps.toList with
  | nil =>
    have := (name_S hw).1
    rw [e2] at this
    simp at this
  | cons a b =>
    rw [e2, List.cons_append] at e
    have := word_free hw a (by rw [e2]; exact List.mem_cons_self)
    rw [← (List.cons.inj e).1]
    exact this.1
def spStmtR (K : PySem.W.Frag) (n : Nat) : Sp := fun vs H Q _ => ∃ p la ls k, ∃ dp : Nat, ∃ s, vs = [.ref p, .int dp] ∧ RdAt K H p la ls k ∧ stmtR (bodyR n) s ∧ dp + n ≤ 50 ∧ LinesAt ls k (stmtT (bodyT n (dp + 1)) dp s) ∧ TermAt ls (k + (stmtT (bodyT n (dp + 1)) dp s).length) (dp + 1) ∧
  ∀ H' v, SX p H H' → RdAt K H' p la ls (k + (stmtT (bodyT n (dp + 1)) dp s).length) → Dt K H' v s → Q v H'
def spBodyR (K : PySem.W.Frag) (n : Nat) : Sp := fun vs H Q _ => ∃ p la ls k, ∃ dp : Nat, ∃ d, vs = [.ref p, .int dp] ∧ RdAt K H p la ls k ∧ bodyR n d ∧ dp + n ≤ 51 ∧ LinesAt ls k (bodyT n dp d) ∧ TermAt ls (k + (bodyT n dp d).length) dp ∧
  ∀ H' v, SX p H H' → RdAt K H' p la ls (k + (bodyT n dp d).length) → Dt K H' v d → Q v H'
theorem st_Reader_body (T : Top K mg w) {n m : Nat} (G_Reader_statement : FnR P w K mg base CX0 (m + 30) (He.ma K (He.ga K "Reader") "statement") (spStmtR K n)) : FnR P w K mg base CX0 (m + 31) (He.ma K (He.ga K "Reader") "body") (spBodyR K (n + 1)) := by
  obtain ⟨fd, F⟩ := T.def_ d_Reader_body (List.mem_of_getElem? (i := 48) rfl)
  refine mkR F sc_Reader_body (fun _ _ _ _ _ _ us hl => match us, hl with | [_, _], _ => rfl) (fun vs H Q E h => ?_) (fun cdv A outer s H vs Q E hr h => ?_)
  · obtain ⟨p, la, ls, k, dp, d, rfl, _⟩ := h; rfl
  obtain ⟨p, la, ls, k, dp, d, rfl, hrd, hb, hdep, hL, hT, q⟩ := h
  have G_Reader_next_line := ok_Reader_next_line (P := P) (w := w) (base := base) T
  refine ⟨_, pss_cons (ps_set (i := 2) sc_Reader_body.nd rfl (by first | exact Or.inl rfl | exact Or.inr rfl) (pe_lst (pa_cons (pe_methR (pv 0) (T.cls "Reader" (by decide +kernel)).1 (T.meth ("Reader", "statement") (by decide +kernel)) G_Reader_statement (hr.mono (by omega)) pass0 (pa_cons (pv 1) pa_nil)) pa_nil)))
    (pss_cons (ps_while PassesOwn.never (pt_cmpR (op_ge) (pe_ix (r := rIxT K) ix_tup (pmeth0' (T.cls "Reader" (by decide +kernel)).1 (T.meth ("Reader", "next_line") (by decide +kernel)) G_Reader_next_line hr (pv 0)) pe_int (fun _ _ => rfl)) (pe_op op_mul (pv 1) (pe_callB (r := fun xs H Q => ∃ x n, xs = [x] ∧ LenV K x H n ∧ Q (.int n) H) call_len (by rfl) (T.free "len" (by decide +kernel)) (by decide +kernel) (pa_cons (pe_gstr (T.str ("STEP", "  ") (by decide +kernel))) pa_nil))) (nomark _))
    (pss_one (ps_expr (pe_bm PySem.F.plainAttrs_list PySem.F.slot_list_append PySem.F.type_list_append mt_append (pv 2) (pa_cons (pe_methR (pv 0) (T.cls "Reader" (by decide +kernel)).1 (T.meth ("Reader", "statement") (by decide +kernel)) G_Reader_statement (hr.mono (by omega)) pass0 (pa_cons (pv 1) pa_nil)) pa_nil)))))
    (pss_one (ps_ret (pe_callTy call_tuple_of (by rfl) (T.free "tuple" (by decide +kernel)) (by decide +kernel) (pa_cons (pv 2) pa_nil))))), ?_⟩
  have zl := line_big
  have hrd00 := hrd
  obtain ⟨hn, hl, dx, hp, hla, nla⟩ := hrd
  obtain ⟨ds, rfl, l1, l2, hs⟩ := hb
  have eB : bodyT (n + 1) dp (.tuple ds) = ds.flatMap (stmtT (bodyT n (dp + 1)) dp) := rfl
  rw [eB] at hL hT q
  -- behind i statements
  have seg : ∀ i (s : PyData), ds[i]? = some s → LinesAt ls (k + ((ds.take i).flatMap (stmtT (bodyT n (dp + 1)) dp)).length) (stmtT (bodyT n (dp + 1)) dp s) ∧ TermAt ls (k + ((ds.take i).flatMap (stmtT (bodyT n (dp + 1)) dp)).length + (stmtT (bodyT n (dp + 1)) dp s).length) (dp + 1) := by
    intro i s e
    have es := flat_take_succ (stmtT (bodyT n (dp + 1)) dp) e
    have e3 : ds.flatMap (stmtT (bodyT n (dp + 1)) dp) = (ds.take (i + 1)).flatMap (stmtT (bodyT n (dp + 1)) dp) ++ (ds.drop (i + 1)).flatMap (stmtT (bodyT n (dp + 1)) dp) := by rw [← List.flatMap_append, List.take_append_drop]
    have hL2 := hL
    rw [e3] at hL2
    have hLa := hL2.left
    rw [es] at hLa
    refine ⟨hLa.right, ?_⟩
    have e4 : k + ((ds.take i).flatMap (stmtT (bodyT n (dp + 1)) dp)).length + (stmtT (bodyT n (dp + 1)) dp s).length = k + ((ds.take (i + 1)).flatMap (stmtT (bodyT n (dp + 1)) dp)).length := by rw [es, List.length_append]; omega
    rw [e4]
    cases e5 : ds.drop (i + 1) with
    | nil =>
      rw [e3, e5, List.flatMap_nil, List.append_nil] at hT
      rcases hT with h | ⟨sp, ws, h1, h2, h3⟩
      · exact .inl h
      · exact .inr ⟨sp, ws, h1, h2, by omega⟩
    | cons s2 r2 =>
      have hm : s2 ∈ ds := List.mem_of_mem_drop (by rw [e5]; exact List.mem_cons_self)
      obtain ⟨x, r, ws, ex, ec, hws⟩ := stmt_first (B := bodyT n (dp + 1)) (dp := dp) (hs s2 hm) (by omega)
      have hLb := hL2.right
      rw [e5, List.flatMap_cons, ex] at hLb
      have := hLb.head
      exact .inr ⟨dp * 2, ws, by rw [this, ec], hws, by omega⟩
  refine sq ?_
  walk_at "wp"
  have d0 : ds[0]? = some (ds[0]'(by omega)) := List.getElem?_eq_getElem (by omega)
  have m0 := List.getElem_mem (l := ds) (n := 0) (by omega)
  generalize ds[0]'(by omega) = sa at d0 m0
  have sg0 := seg 0 sa d0
  rw [List.take_zero, List.flatMap_nil, List.length_nil, Nat.add_zero] at sg0
  have et1 : (ds.take 1).flatMap (stmtT (bodyT n (dp + 1)) dp) = stmtT (bodyT n (dp + 1)) dp sa := by
    rw [flat_take_succ _ d0]; simp
  refine ⟨dx, _, hp, rfl, p, la, ls, k, dp, sa, rfl, hrd00, hs sa m0, by omega, sg0.1, sg0.2, fun H1 v1 X1 hrd1 gv1 => ⟨by decide, fun f nf => ?_⟩⟩
  obtain ⟨_, _, dx1, hp1, _, _⟩ := id hrd1
  obtain ⟨nfH, nfp⟩ := X1.fresh hp1 nf
  have s2 := same_new nf (.lst [v1])
  refine sq ?_
  refine ⟨fun m σ H' => σ = [some (V.ref p), some (V.int (dp : Nat)), some (V.ref f)] ∧ ∃ i vs, m = ds.length - i ∧ 1 ≤ i ∧ i ≤ ds.length ∧ SX p H H' ∧ RdAt K H' p la ls (k + ((ds.take i).flatMap (stmtT (bodyT n (dp + 1)) dp)).length) ∧ H' f = some (.lst vs) ∧ DtAll K H' vs (ds.take i),
    ⟨ds.length - 1, rfl, 1, [v1], rfl, Nat.le_refl _, l1, X1.trans (.of s2), by rw [et1]; exact hrd1.same s2, upd_same, by rw [List.take_add_one, List.take_zero, d0]; exact .cons (gv1.keep (tups_of s2)) .nil⟩, ?_⟩
  rintro m σ H3 ⟨rfl, i, vs, rfl, hi1, hi2, X3, hrd3, ef3, hvs3⟩
  obtain ⟨_, _, dx3, hp3, _, _⟩ := id hrd3
  have lvs := dta_len hvs3
  rw [List.length_take] at lvs
  walk_at "wp"
  refine ⟨dx3, _, hp3, rfl, p, la, ls, _, rfl, hrd3, ?_⟩
  by_cases hi3 : i < ds.length
  · have di : ds[i]? = some (ds[i]'hi3) := List.getElem?_eq_getElem hi3
    have mi := List.getElem_mem hi3
    generalize ds[i]'hi3 = si at di mi
    have sgi := seg i si di
    obtain ⟨x, r, ws, ex, ec, hws⟩ := stmt_first (B := bodyT n (dp + 1)) (dp := dp) (hs si mi) (by omega)
    have hline := sgi.1
    rw [ex] at hline
    have hline := hline.head
    rw [ec] at hline
    refine .inr ⟨dp * 2, ws, hline, hws, fun H4 t s4 hT4 => ?_⟩
    refine ixT_at 0 hT4 rfl ⟨2, ⟨by show 2 ≤ sizeLine; omega, rfl⟩, .inl ⟨by omega, by omega⟩, _, rfl, iteTb (decide_eq_true (by omega)) ?_⟩
    have ef4 := s4 _ _ ef3
    have hrd4 := hrd3.same s4
    refine ⟨fun σ' H' => σ' = [some (V.ref p), some (V.int (dp : Nat)), some (V.ref f)] ∧ ∃ vs, SX p H H' ∧ RdAt K H' p la ls (k + ((ds.take (i + 1)).flatMap (stmtT (bodyT n (dp + 1)) dp)).length) ∧ H' f = some (.lst vs) ∧ DtAll K H' vs (ds.take (i + 1)), fun σ' H' ⟨e, vs', a1, a2, a3, a4⟩ => ⟨ds.length - (i + 1), by omega, e, i + 1, rfl, by omega, hi3, a1, a2, vs', a3, a4⟩, ?_⟩
    refine ⟨tyL ef4, dx3, _, s4 _ _ hp3, rfl, p, la, ls, _, dp, si, rfl, hrd4, hs si mi, by omega, sgi.1, sgi.2, fun H5 v5 X5 hrd5 gv5 => ?_⟩
    have ef5 := X5.x _ _ nfp ef4
    refine app_ask ef5 (by omega) ?_
    have t6 := tups_lst ef5 (.lst (vs ++ [v5]))
    refine ⟨rfl, vs ++ [v5], ((X3.trans (.of s4)).trans X5).at nfH _, ?_, upd_same, ?_⟩
    · rw [flat_take_succ _ di, List.length_append, ← Nat.add_assoc]
      exact hrd5.at nfH hrd00 nfp
    · rw [List.take_add_one, di]
      exact dta_app (hvs3.keep (((tups_of s4).trans X5.t).trans t6)) (.cons (gv5.keep t6) .nil)
  · have ei : i = ds.length := by omega
    subst ei
    rw [List.take_of_length_le (Nat.le_refl _)] at hrd3 hvs3 ⊢
    have fin : ∀ H4, Same H3 H4 → ∃ x, (SqL K H4 f x ∧ ∀ (l : Addr), H4 l = none → Q (V.ref l) (upd H4 l (HO.tup x))) ∨ SqT K H4 f x ∧ Q (V.ref f) H4 := fun H4 s4 => by
      refine ⟨vs, .inl ⟨.of (s4 _ _ ef3), fun l nl => ?_⟩⟩
      have s5 := same_new nl (.tup vs)
      exact q _ _ (X3.trans (.of (s4.trans s5))) ((hrd3.same s4).same s5) (.tup (.inl (.inl upd_same)) (hvs3.keep (tups_of (s4.trans s5))))
    rcases hT with h | ⟨sp, ws, h1, h2, h3⟩
    · exact .inl ⟨h, fun H4 t s4 hT4 => ixT_at 0 hT4 rfl ⟨2, ⟨by show 2 ≤ sizeLine; omega, rfl⟩, .inl ⟨by omega, by omega⟩, _, rfl, iteFb (decide_eq_false (by omega)) (fin H4 s4)⟩⟩
    · exact .inr ⟨sp, ws, h1, h2, fun H4 t s4 hT4 => ixT_at 0 hT4 rfl ⟨2, ⟨by show 2 ≤ sizeLine; omega, rfl⟩, .inl ⟨by omega, by omega⟩, _, rfl, iteFb (decide_eq_false (by omega)) (fin H4 s4)⟩⟩
end
end K91
set_option Elab.async false
set_option linter.all false
set_option maxRecDepth 100000
set_option maxHeartbeats 8000000
namespace K91
open PySem PySem.Spec PyProof.Rows L2 _root_.SX PySem.NumText
local macro_rules | `(tactic| walk_at "wp") => `(tactic| try simp only [cxK, cxw, cxK', cxw', start1, start2, start3, start4, start5, tRet, tRetN, tAsg, gName, gTup, gCons, gNil, gSub, tDrop, tNext, tIfS, tIf, tVar, tC, tAndV, tOrV, tNotV, tAnd, tOr, tNot, tTest, tB, tCB, tCons, tNil, tOp, tUn, rI0, rI, rU, rEq, rNe, rIn, tChain, tFld, sFld, tSl, tPart, tNoPart, tTup, tLst, tCallR, tMethR, tMethO, tBM, tBM0, tM0, tM1, tDGet, tDIn, tDNotIn, tDNewK, tCmp, t2I, tIsN, tNotN, tYes, tLc_eq, tFor_eq, tLenSetN, iItems, iVals, iKeys, iRng1, tLock, tLockE, tCallKw, tMakeKw, tMethKw, StX.tMakeR, tDc_eq, tLc2_eq, sFldAug, rMulS, tListVals, LiI.tListItems, LiI.rItemsL, RZ.iZipA, iStr, iTup, iList, iEnum, iEnumT, tDGet1, tDGet2, tDisp, tPairs, wipe, List.map_cons, List.map_nil,
  List.length_cons, List.length_nil, Nat.reduceAdd, Nat.reduceSub, List.replicate_succ, List.replicate_zero, if_true, if_false, Bool.not_true, Bool.not_false, Bool.false_eq_true, reduceIte,
  List.set_cons_zero, List.set_cons_succ, List.getElem?_cons_zero, List.getElem?_cons_succ, Option.some.injEq, exists_eq_left', exists_eq_left, V.int.injEq, V.str.injEq, V.bl.injEq, V.ref.injEq, V.ty.injEq, List.cons.injEq, and_true, true_and, and_assoc, exists_and_left, List.nil_append, List.cons_append, List.append_nil])
local macro_rules | `(tactic| walk_at "st") => `(tactic| (refine sq ?_; walk_at "wp"))
section
variable {P : Program} {w : World} {K : PySem.W.Frag} {mg : Str → Option Value} {base : Heap}
/-- what stands behind the word of a statement's line -/
def postC (wd : Str) (ks : List Str) (ps : List PyData) : List Nat := if wd = "try" then [] else partsC ks ps
theorem parts_lead : ∀ (l : List (Str × PyData)), (∀ q ∈ l, q.1 ≠ ("body" : Str) → partR q.1 q.2) → (l.flatMap fun q => if q.1 = ("body" : Str) then [] else partC q.1 q.2) = [] ∨ ∃ r, (l.flatMap fun q => if q.1 = ("body" : Str) then [] else partC q.1 q.2) = 32 :: r
  | [], _ => .inl rfl
  | q :: l, h => by
    have ih := parts_lead l fun q' hq => h q' (List.mem_cons_of_mem _ hq)
    rw [List.flatMap_cons]
    by_cases c : q.1 = ("body" : Str)
    · rw [if_pos c, List.nil_append]
      exact ih
    · rw [if_neg c]
      by_cases c2 : q.1 = ("args" : Str)
      · obtain ⟨es, e, _⟩ := (h q List.mem_cons_self c).1 c2
        have e2 : partC q.1 q.2 = argsC es := by unfold partC; rw [if_pos c2, e]
        rw [e2]
        cases es with
        | nil => exact ih
        | cons a b => exact .inr ⟨_, rfl⟩
      · have e2 : partC q.1 q.2 = 32 :: exprC 6 q.2 := by unfold partC; rw [if_neg c2]
        rw [e2]
        exact .inr ⟨_, rfl⟩
theorem post_lead {wd : Str} {ks : List Str} {ps : List PyData} (h : ∀ q ∈ ks.zip ps, q.1 ≠ ("body" : Str) → partR q.1 q.2) : postC wd ks ps = [] ∨ ∃ r, postC wd ks ps = 32 :: r := by
  unfold postC
  by_cases c : wd = "try"
  · rw [if_pos c]; exact .inl rfl
  · rw [if_neg c]; exact parts_lead _ h
theorem line_codes {wd : Str} {ks : List Str} {ps : List PyData} {dp : Nat} (hd : dp ≤ 100) (h : ∀ q ∈ ks.zip ps, q.1 ≠ ("body" : Str) → partR q.1 q.2) : (indT dp (wordsT wd ks ps)).cps.toList = List.replicate (dp * 2) 32 ++ (wd.cps.toList ++ postC wd ks ps) := by
  unfold wordsT postC
  by_cases c : wd = "try"
  · rw [if_pos c, if_pos c, ind_codes dp hd, c]
    rfl
  · rw [if_neg c, if_neg c, ind_codes dp hd, words_codes fun q hq e => by
      obtain ⟨es, e2, _⟩ := (h q hq (by rw [e]; decide)).1 e
      exact ⟨es, e2⟩]
theorem stmtT_eq {B : PyData → List Str} {dp : Nat} {wd : Str} {ks : List Str} {ps : List PyData} (hk : shapeOf wd = some ks) : stmtT B dp (.tuple (.str wd :: ps)) = indT dp (wordsT wd ks ps) :: ((bodiesL ks ps).zipIdx.flatMap fun q => (if q.2 = 1 then [indT dp (midT wd ps)] else []) ++ B q.1) := by
  show indT dp (wordsT wd ((shapeOf wd).getD []) ps) :: ((bodiesL ((shapeOf wd).getD []) ps).zipIdx.flatMap _) = _
  rw [hk]
  rfl
/-- the parts in a statement's line -/
def qsL (wd : Str) (ks : List Str) (ps : List PyData) : List (Str × PyData) := if wd = "try" then [] else (ks.zip ps).filter fun q => decide (q.1 ≠ ("body" : Str))
theorem kinds_eq {wd : Str} {ks : List Str} {ps : List PyData} (h : ps.length = ks.length) : (ks.filter fun kd => decide (kd ≠ ("body" : Str)) && decide (wd ≠ ("try" : Str))) = (qsL wd ks ps).map Prod.fst := by
  unfold qsL
  by_cases c : wd = "try"
  · rw [if_pos c, decide_eq_false (fun z => z c)]
    simp
  · rw [if_neg c, decide_eq_true c]
    simp only [Bool.and_true]
    induction ks generalizing ps with
    | nil => rfl
    | cons k r ih =>
      cases ps with
      | nil => cases h
      | cons p ps =>
        have i := ih (ps := ps) (by simpa using h)
        rw [List.zip_cons_cons, List.filter_cons, List.filter_cons]
        by_cases c2 : k = ("body" : Str)
        · rw [if_neg (by simp [c2]), if_neg (by simp [c2])]
          exact i
        · rw [if_pos (by simp [c2]), if_pos (by simp [c2]), List.map_cons, i]
theorem post_qs {wd : Str} {ks : List Str} {ps : List PyData} : postC wd ks ps = (qsL wd ks ps).flatMap fun q => partC q.1 q.2 := by
  unfold postC qsL partsC
  by_cases c : wd = "try"
  · rw [if_pos c, if_pos c]; rfl
  · rw [if_neg c, if_neg c]
    induction ks.zip ps with
    | nil => rfl
    | cons q r ih =>
      rw [List.flatMap_cons, ih, List.filter_cons]
      by_cases c2 : q.1 = ("body" : Str)
      · rw [if_pos c2, if_neg (by simp [c2])]
        rfl
      · rw [if_neg c2, if_pos (by simp [c2]), List.flatMap_cons]
/-- the four forms of statements -/
theorem shape_form {wd : Str} {ks : List Str} (hk : shapeOf wd = some ks) : (("body" : Str) ∉ ks ∧ wd ≠ "try" ∧ wd ≠ "if" ∧ wd ≠ "loop") ∨ (wd = "loop" ∧ ks = (["body"] : List Str)) ∨ (wd = "if" ∧ ks = (["expression", "body", "body"] : List Str)) ∨ (wd = "try" ∧ ks = (["body", "name", "body"] : List Str)) := by
  have z : ∀ s ∈ shapes, (("body" : Str) ∉ s.2 ∧ s.1 ≠ "try" ∧ s.1 ≠ "if" ∧ s.1 ≠ "loop") ∨ (s.1 = "loop" ∧ s.2 = (["body"] : List Str)) ∨ (s.1 = "if" ∧ s.2 = (["expression", "body", "body"] : List Str)) ∨ (s.1 = "try" ∧ s.2 = (["body", "name", "body"] : List Str)) := by decide +kernel
  exact z (wd, ks) (shapeOf_mem hk)
theorem zip_fst_mem {ks : List Str} {ps : List PyData} {q : Str × PyData} (h : q ∈ ks.zip ps) : q.1 ∈ ks := (List.of_mem_zip (a := q.1) (b := q.2) h).1
theorem bodies_none {ks : List Str} {ps : List PyData} (h : ("body" : Str) ∉ ks) : bodiesL ks ps = [] := by
  unfold bodiesL
  rw [List.map_eq_nil_iff, List.filter_eq_nil_iff]
  intro q hq c
  exact h (of_decide_eq_true c ▸ zip_fst_mem hq)
theorem qs_all {wd : Str} {ks : List Str} {ps : List PyData} (h : ("body" : Str) ∉ ks) (ht : wd ≠ "try") (hl : ps.length = ks.length) : (qsL wd ks ps).map Prod.snd = ps := by
  unfold qsL
  rw [if_neg ht, List.filter_eq_self.mpr]
  · exact List.map_snd_zip (by omega)
  · intro q hq
    exact decide_eq_true fun c => h (c ▸ zip_fst_mem hq)
theorem args_last {wd : Str} {ks : List Str} {ps : List PyData} (hk : shapeOf wd = some ks) (h : ps.length = ks.length) {i : Nat} {q : Str × PyData} (e : (qsL wd ks ps)[i]? = some q) (ha : q.1 = "args") : (qsL wd ks ps).drop (i + 1) = [] := by
  have z : ∀ s ∈ shapes, ∀ i, i < 4 → (s.2.filter fun kd => decide (kd ≠ ("body" : Str)))[i]? = some ("args" : Str) → (s.2.filter fun kd => decide (kd ≠ ("body" : Str))).length = i + 1 := by decide +kernel
  have hi := (List.getElem?_eq_some_iff.mp e).1
  have ek := kinds_eq (wd := wd) h
  by_cases c : wd = "try"
  · unfold qsL at e
    rw [if_pos c] at e
    cases e
  · have e1 : (ks.filter fun kd => decide (kd ≠ ("body" : Str)) && decide (wd ≠ ("try" : Str))) = ks.filter fun kd => decide (kd ≠ ("body" : Str)) := by
      congr 1
      funext kd
      rw [decide_eq_true (p := wd ≠ ("try" : Str)) c, Bool.and_true]
    rw [e1] at ek
    have kl := shape_len hk
    have l1 : (ks.filter fun kd => decide (kd ≠ ("body" : Str))).length ≤ ks.length := List.length_filter_le _ _
    have l2 := congrArg List.length ek
    rw [List.length_map] at l2
    have := z (wd, ks) (shapeOf_mem hk) i (by omega) (by show (ks.filter _)[i]? = _; rw [ek, List.getElem?_map, e]; show some q.1 = _; rw [ha])
    have this : (ks.filter fun kd => decide (kd ≠ ("body" : Str))).length = i + 1 := this
    exact List.drop_of_length_le (by omega)
theorem qs_mem {wd : Str} {ks : List Str} {ps : List PyData} (hparts : ∀ q ∈ ks.zip ps, q.1 ≠ ("body" : Str) → partR q.1 q.2) : ∀ q ∈ qsL wd ks ps, q.1 ≠ ("body" : Str) ∧ partR q.1 q.2 := by
  intro q hq
  unfold qsL at hq
  by_cases c : wd = "try"
  · rw [if_pos c] at hq; cases hq
  · rw [if_neg c] at hq
    obtain ⟨h1, h2⟩ := List.mem_filter.mp hq
    have h3 := of_decide_eq_true h2
    exact ⟨h3, hparts q h1 h3⟩
theorem flat_lead : ∀ (l : List (Str × PyData)), (∀ q ∈ l, q.1 ≠ ("body" : Str) ∧ partR q.1 q.2) → stopP (l.flatMap fun q => partC q.1 q.2)
  | [], _ => fun _ _ e => by cases e
  | q :: l, h => by
    have ih := flat_lead l fun q' hq => h q' (List.mem_cons_of_mem _ hq)
    rw [List.flatMap_cons]
    by_cases c2 : q.1 = ("args" : Str)
    · obtain ⟨es, e, _⟩ := (h q List.mem_cons_self).2.1 c2
      have e2 : partC q.1 q.2 = argsC es := by unfold partC; rw [if_pos c2, e]
      rw [e2]
      cases es with
      | nil => exact ih
      | cons a b => exact fun _ _ e => .inl (List.cons.inj e).1.symm
    · have e2 : partC q.1 q.2 = 32 :: exprC 6 q.2 := by unfold partC; rw [if_neg c2]
      rw [e2]
      exact fun _ _ e => .inl (List.cons.inj e).1.symm
theorem st_Reader_statement (T : Top K mg w) {n m : Nat} (G_Reader_body : FnR P w K mg base CX0 (m + 30) (He.ma K (He.ga K "Reader") "body") (spBodyR K n)) : FnR P w K mg base CX0 (m + 31) (He.ma K (He.ga K "Reader") "statement") (spStmtR K n) := by
  obtain ⟨fd, F⟩ := T.def_ d_Reader_statement (List.mem_of_getElem? (i := 49) rfl)
  refine mkR F sc_Reader_statement (fun _ _ _ _ _ _ us hl => match us, hl with | [_, _], _ => rfl) (fun vs H Q E h => ?_) (fun cdv A outer s H vs Q E hr h => ?_)
  · obtain ⟨p, la, ls, k, dp, s, rfl, _⟩ := h; rfl
  obtain ⟨p, la, ls, k, dp, st, rfl, hrd, hst, hdep, hL, hT, q⟩ := h
  have G_Reader_next_line := ok_Reader_next_line (P := P) (w := w) (base := base) T
  have G_Reader_row_behind := ok_Reader_row_behind (P := P) (w := w) (base := base) T
  have G_Reader_end_row := ok_Reader_end_row (P := P) (w := w) (base := base) T
  have G_Reader_middle := ok_Reader_middle (P := P) (w := w) (base := base) T
  have G_Row_next_part := ok_Row_next_part (P := P) (w := w) (base := base) T
  obtain ⟨es, nn, DS⟩ := T.shp
  refine ⟨_, pss_cons (ps_asg (pmeth0' (T.cls "Reader" (by decide +kernel)).1 (T.meth ("Reader", "next_line") (by decide +kernel)) G_Reader_next_line hr (pv 0)) (pg_tup (n := 2) rfl (pgs_cons (pg_name (i := 2) sc_Reader_statement.nd rfl (by first | exact Or.inl rfl | exact Or.inr rfl)) (pgs_cons (pg_name (i := 3) sc_Reader_statement.nd rfl (by first | exact Or.inl rfl | exact Or.inr rfl)) pgs_nil))))
    (pss_cons (ps_set (i := 4) sc_Reader_statement.nd rfl (by first | exact Or.inl rfl | exact Or.inr rfl) (pe_ix (r := rIxL K) ix_list (pe_split (pv 3) pe_str) pe_int (fun _ _ => rfl)))
    (pss_cons (ps_if (PW.pt (pw_or (pt_cmpR (op_ne) (pv 2) (pe_op op_mul (pv 1) (pe_callB (r := fun xs H Q => ∃ x n, xs = [x] ∧ LenV K x H n ∧ Q (.int n) H) call_len (by rfl) (T.free "len" (by decide +kernel)) (by decide +kernel) (pa_cons (pe_gstr (T.str ("STEP", "  ") (by decide +kernel))) pa_nil))) (nomark _)) (pw_or1 (pt_cmpR (op_notIn_kd DS) (pv 4) (pe_gref (T.ref "SHAPES" (by decide +kernel))) rfl)))) (pss_one ps_never) pss_nil)
    (pss_cons (ps_par (i := 5) (j := 6) (by rfl) sc_Reader_statement.nd rfl rfl (by decide) rfl rfl (pa_cons (pe_methR (pv 0) (T.cls "Reader" (by decide +kernel)).1 (T.meth ("Reader", "row_behind") (by decide +kernel)) G_Reader_row_behind (hr.mono (by omega)) pass0 (pa_cons (pv 4) pa_nil)) (pa_cons (pe_lst (pa_cons (pv 4) pa_nil)) pa_nil)) (by rfl))
    (pss_cons (ps_setLc (i := 7) (own := [("kind", 8)]) (g := (gName 8)) rfl sc_Reader_statement.nd rfl rfl (sw_true rfl rfl rfl (by decide +kernel)) (pi_tup (pe_ix (r := rIxD K w) ix_kdict (pe_gref (T.ref "SHAPES" (by decide +kernel))) (pv 4) (fun _ _ => rfl))) (blkOk_by (own := [("kind", 8)]) (N := ["self", "depth", "spaces", "words", "word", "row", "parts", "kinds", "kind"]) (sc := defScope s_Reader_statement) (by decide +kernel)) (fun _ _ _ _ _ => (pg_name (i := 8) sc_Reader_statement.nd rfl (by first | exact Or.inl rfl | exact Or.inr rfl))) (fun _ _ _ _ _ => (pts_one (PW.pt (pw_and (pt_cmpR (op_ne) (pv 8) pe_str (nomark _)) (pw_and1 (pt_cmpR (op_ne) (pv 4) pe_str (nomark _))))))) (fun _ _ _ _ _ => (pv 8)))
    (pss_cons (ps_for PassesOwn.never rfl (pi_list (pv 7)) (pg_name (i := 8) sc_Reader_statement.nd rfl (by first | exact Or.inl rfl | exact Or.inr rfl))
    (pss_one (ps_expr (pe_bm PySem.F.plainAttrs_list PySem.F.slot_list_append PySem.F.type_list_append mt_append (pv 6) (pa_cons (pe_methR (pv 5) (T.cls "Row" (by decide +kernel)).1 (T.meth ("Row", "next_part") (by decide +kernel)) G_Row_next_part (hr.mono (by omega)) pass0 (pa_cons (pv 8) pa_nil)) pa_nil)))))
    (pss_cons (ps_expr (pe_methR (pv 0) (T.cls "Reader" (by decide +kernel)).1 (T.meth ("Reader", "end_row") (by decide +kernel)) G_Reader_end_row (hr.mono (by omega)) pass0 (pa_cons (pv 5) pa_nil)))
    (pss_cons (ps_if (pt_cmpR (r := rIn K true) op_notIn_seq pe_str (pe_ix (r := rIxD K w) ix_kdict (pe_gref (T.ref "SHAPES" (by decide +kernel))) (pv 4) (fun _ _ => rfl)) rfl) (pss_one (ps_ret (pe_callTy call_tuple_of (by rfl) (T.free "tuple" (by decide +kernel)) (by decide +kernel) (pa_cons (pv 6) pa_nil)))) pss_nil)
    (pss_cons (ps_expr (pe_bm PySem.F.plainAttrs_list PySem.F.slot_list_append PySem.F.type_list_append mt_append (pv 6) (pa_cons (pe_methR (pv 0) (T.cls "Reader" (by decide +kernel)).1 (T.meth ("Reader", "body") (by decide +kernel)) G_Reader_body (hr.mono (by omega)) pass0 (pa_cons (pe_op op_add (pv 1) pe_int) pa_nil)) pa_nil)))
    (pss_cons (ps_if (pt_cmpR (op_eq) (pv 4) pe_str (nomark _)) (pss_one (ps_ret (pe_callTy call_tuple_of (by rfl) (T.free "tuple" (by decide +kernel)) (by decide +kernel) (pa_cons (pv 6) pa_nil)))) pss_nil)
    (pss_cons (ps_expr (pe_bm PySem.F.plainAttrs_list PySem.F.slot_list_extend PySem.F.type_list_extend mt_extend (pv 6) (pa_cons (pe_methR (pv 0) (T.cls "Reader" (by decide +kernel)).1 (T.meth ("Reader", "middle") (by decide +kernel)) G_Reader_middle (hr.mono (by omega)) pass0 (pa_cons (pv 1) (pa_cons (pe_ifExp (pt_cmpR (op_eq) (pv 4) pe_str (nomark _)) (pe_gstr (T.str ("ELSE", "else") (by decide +kernel))) (pe_gstr (T.str ("HANDLE", "handle") (by decide +kernel)))) pa_nil))) pa_nil)))
    (pss_cons (ps_expr (pe_bm PySem.F.plainAttrs_list PySem.F.slot_list_append PySem.F.type_list_append mt_append (pv 6) (pa_cons (pe_methR (pv 0) (T.cls "Reader" (by decide +kernel)).1 (T.meth ("Reader", "body") (by decide +kernel)) G_Reader_body (hr.mono (by omega)) pass0 (pa_cons (pe_op op_add (pv 1) pe_int) pa_nil)) pa_nil)))
    (pss_one (ps_ret (pe_callTy call_tuple_of (by rfl) (T.free "tuple" (by decide +kernel)) (by decide +kernel) (pa_cons (pv 6) pa_nil))))))))))))))), ?_⟩
  have zl := line_big
  have hrd00 := hrd
  obtain ⟨hn, hl, dx, hp, hla, nla⟩ := hrd
  obtain ⟨wd, ps, ks, rfl, hk, hlen, hparts, hbod⟩ := hst
  refine sq ?_
  walk_at "wp"
  have hwn := word_codes hk
  have ewd : S wd.cps.toList = wd := S_tl wd
  have wfree := word_free hwn
  have hpl := post_lead (wd := wd) hparts
  have hfw : firstW (wd.cps.toList ++ postC wd ks ps) wd.cps.toList := ⟨fun m => (wfree 32 m).1 rfl, by
    rcases hpl with e | ⟨r, e⟩
    · exact .inl (by rw [e, List.append_nil])
    · exact .inr ⟨r, by rw [e]⟩⟩
  have hws : ∀ c r, wd.cps.toList ++ postC wd ks ps = c :: r → c ≠ 32 := fun c r e => by
    cases e2 : wd.cps.toList with
    | nil =>
      have := (name_S hwn).1
      rw [e2] at this
      simp at this
    | cons a b =>
      rw [e2, List.cons_append] at e
      rw [← (List.cons.inj e).1]
      exact (wfree a (by rw [e2]; exact List.mem_cons_self)).1
  rw [stmtT_eq hk] at hL hT q
  have hline := hL.head
  rw [line_codes (by omega) hparts] at hline
  refine ⟨dx, _, hp, rfl, p, la, ls, k, rfl, hrd00, .inr ⟨dp * 2, _, hline, hws, fun H1 t s1 hT1 => ?_⟩⟩
  refine ⟨t, rfl, _, hT1, rfl, _, _, rfl, _, _, rfl, rfl, ?_⟩
  refine sq ?_
  walk_at "wp"
  have hlen1 := hl _ (List.mem_of_getElem? hline)
  rw [List.length_append, List.length_replicate] at hlen1
  obtain ⟨sr, esr⟩ := first_split hfw
  have esp : Txt.split (S (wd.cps.toList ++ postC wd ks ps)) (Str.ofString " ") = (wd.cps.toList :: sr).map S := by
    rw [← esr]
    exact split_S (b := [32]) (by simp) (by decide)
  refine ⟨⟨_, rfl⟩, rfl, by rw [S_len]; omega, ?_⟩
  rw [esp]
  intro sl nsl
  refine ixL_at 0 (.of upd_same) (v := V.str (S wd.cps.toList)) rfl ?_
  rw [ewd]
  have s2 := s1.trans (same_new nsl (.lst (((wd.cps.toList :: sr).map S).map V.str)))
  generalize upd H1 sl (.lst (((wd.cps.toList :: sr).map S).map V.str)) = H2 at s2 ⊢
  refine sq ?_
  walk_at "wp"
  obtain ⟨tt, ett, hSS⟩ := T.shpV (wd, ks) (shapeOf_mem hk)
  refine ⟨2, ⟨by show 2 ≤ sizeLine; omega, rfl⟩, .inl ⟨by omega, by omega⟩, rfl, iteFb (by rw [decide_eq_true (show ((dp * 2 : Nat) : Int) = (dp : Int) * ((2 : Nat) : Int) from by omega)]; rfl) ⟨_, ett, iteFb rfl ?_⟩⟩
  refine sq ?_
  simp only [tPar]
  walk_at "wp"
  refine ⟨dx, _, s2 _ _ hp, rfl, p, la, ls, k, wd.cps.toList, dp * 2, postC wd ks ps, by rw [ewd], hrd00.same s2, hline, hws, fun H3 rp s3 nrp hrow => ⟨by decide, fun lp nlp => ?_⟩⟩
  have s23 := s2.trans s3
  have nrpH : H rp = none := by
    cases e : H rp with
    | none => rfl
    | some u => rw [s2 _ _ e] at nrp; cases nrp
  have nprp : p ≠ rp := by rintro rfl; rw [hp] at nrpH; cases nrpH
  obtain ⟨lrow, dr, er⟩ := id hrow
  have s4 := same_new nlp (.lst [V.str wd])
  have nlrp : lp ≠ rp := by rintro rfl; rw [er] at nlp; cases nlp
  obtain ⟨nlH, nlpp⟩ := (SX.of s23 (p := p)).fresh (s23 _ _ hp) nlp
  have X4 : SX p H (upd H3 lp (.lst [V.str wd])) := (SX.of s23).trans (.of s4)
  have hrd4 := (hrd00.same s23).same s4
  have hrow4 := hrow.same s4
  have el4 : (upd H3 lp (.lst [V.str wd])) lp = some (.lst [V.str wd]) := upd_same
  generalize upd H3 lp (.lst [V.str wd]) = H4 at X4 hrd4 hrow4 el4 ⊢
  refine sq ?_
  walk_at "wp"
  refine shp_ask T hk fun tS hS1 hS2 => ⟨tS, rfl, ⟨_, hS1⟩, ?_⟩
  refine lcGo (walk_tup (xs := ks.map V.str)) (fun i acc _ => acc = ((ks.take i).filter fun kd => decide (kd ≠ ("body" : Str)) && decide (wd ≠ ("try" : Str))).map V.str) (fun _ _ => rfl) (fun H' _ => hS2 H') ?_ ?_
  · rintro D i x acc H5 H6 nD hi s5 eD la5 ra ⟨eH, ex⟩
    subst eH
    obtain ⟨kd, ekd, rfl⟩ := strs_get ex
    walk_at "wp"
    have ekt : ((ks.take (i + 1)).filter fun kd => decide (kd ≠ ("body" : Str)) && decide (wd ≠ ("try" : Str))) = ((ks.take i).filter fun kd => decide (kd ≠ ("body" : Str)) && decide (wd ≠ ("try" : Str))) ++ (if (decide (kd ≠ ("body" : Str)) && decide (wd ≠ ("try" : Str))) = true then [kd] else []) := by
      rw [List.take_add_one, ekd, List.filter_append, Option.toList_some, List.filter_cons, List.filter_nil]
    have kl4 := shape_len hk
    rw [List.length_map] at hi
    refine ⟨rfl, ite2 (fun c1 => ?_) (fun c1 => ?_)⟩
    · have c1' : kd ≠ "body" := fun z => by rw [decide_eq_true z] at c1; cases c1
      refine ⟨rfl, ite2 (fun c2 => ?_) (fun c2 => ?_)⟩
      · have c2' : wd ≠ "try" := fun z => by rw [decide_eq_true z] at c2; cases c2
        refine ⟨acc, eD, by omega, .step nD s5 la5 ?_⟩
        show acc ++ _ = _
        have e1 : (decide (kd ≠ ("body" : Str)) && decide (wd ≠ ("try" : Str))) = true := by rw [decide_eq_true c1', decide_eq_true c2']; rfl
        rw [ekt, if_pos e1, ra, List.map_append]
        rfl
      · have c2' : wd = "try" := by
          have : decide (wd = Str.ofString "try") = true := by simpa using c2
          exact of_decide_eq_true this
        refine .skip s5 eD la5 ?_
        show acc = _
        have e1 : (decide (kd ≠ ("body" : Str)) && decide (wd ≠ ("try" : Str))) = false := by rw [decide_eq_false (p := wd ≠ ("try" : Str)) (fun z => z c2'), Bool.and_false]
        rw [ekt, if_neg (by rw [e1]; exact Bool.false_ne_true), List.append_nil]
        exact ra
    · have c1' : kd = "body" := by
        have : decide (kd = Str.ofString "body") = true := by simpa using c1
        exact of_decide_eq_true this
      refine .skip s5 eD la5 ?_
      show acc = _
      have e1 : (decide (kd ≠ ("body" : Str)) && decide (wd ≠ ("try" : Str))) = false := by rw [decide_eq_false (p := kd ≠ ("body" : Str)) (fun z => z c1'), Bool.false_and]
      rw [ekt, if_neg (by rw [e1]; exact Bool.false_ne_true), List.append_nil]
      exact ra
  rintro kl acc H5 nkl s5 ekl la5 ra
  rw [List.take_of_length_le (by rw [List.length_map]; exact Nat.le_refl _), kinds_eq hlen] at ra
  have hrd5 := hrd4.same s5
  have hrow5 := hrow4.same s5
  have el5 := s5 _ _ el4
  have X5 := X4.trans (.of s5)
  obtain ⟨_, dr5, er5⟩ := id hrow5
  obtain ⟨_, dr4, er4⟩ := id hrow4
  have nkl1 : kl ≠ lp := by rintro rfl; rw [el4] at nkl; cases nkl
  have nkl2 : kl ≠ rp := by rintro rfl; rw [er4] at nkl; cases nkl
  have hqm := qs_mem (wd := wd) hparts
  rw [post_qs] at hrow5
  refine sq ?_
  walk_at "wp"
  refine ⟨⟨_, .of ekl⟩, ?_⟩
  rw [ra] at ekl
  refine forGo (walk_list (xs := ((qsL wd ks ps).map Prod.fst).map V.str)) (fun i σ H' => ∃ x8, σ = [some (V.ref p), some (V.int (dp : Nat)), some (V.int ((dp * 2 : Nat) : Int)), some (V.str (S (wd.cps.toList ++ postC wd ks ps))), some (V.str wd), some (V.ref rp), some (V.ref lp), some (V.ref kl), x8] ∧ SX p H H' ∧ RdAt K H' p la ls k ∧
      RowAt K H' rp ((qsL wd ks ps).flatMap fun q => partC q.1 q.2) (((qsL wd ks ps).take i).flatMap fun q => partC q.1 q.2).length ∧ H' kl = some (.lst (((qsL wd ks ps).map Prod.fst).map V.str)) ∧ ∃ vs, H' lp = some (.lst (V.str wd :: vs)) ∧ DtAll K H' vs (((qsL wd ks ps).take i).map Prod.snd))
    ⟨_, rfl, X5, hrd5, hrow5, ekl, [], el5, .nil⟩ (fun _ _ _ _ ⟨_, _, _, _, _, e, _⟩ => .of e) ?_ ?_
  · rintro i y σ H6 H7 hi ⟨x8, rfl, X6, hrd6, hrow6, ekl6, vs, el6, hvs6⟩ ⟨eH, ey⟩
    subst eH
    rw [List.length_map, List.length_map] at hi
    have eq : (qsL wd ks ps)[i]? = some ((qsL wd ks ps)[i]'hi) := List.getElem?_eq_getElem hi
    have qm := hqm _ (List.getElem_mem hi)
    generalize (qsL wd ks ps)[i]'hi = qq at eq qm
    obtain ⟨kd, d⟩ := qq
    obtain rfl : y = V.str kd := by
      rw [List.getElem?_map, List.getElem?_map, eq] at ey
      exact (Option.some.inj ey).symm
    have e3 : (qsL wd ks ps).flatMap (fun q => partC q.1 q.2) = ((qsL wd ks ps).take i).flatMap (fun q => partC q.1 q.2) ++ partC kd d ++ ((qsL wd ks ps).drop (i + 1)).flatMap (fun q => partC q.1 q.2) := by
      rw [← flat_take_succ (fun q : Str × PyData => partC q.1 q.2) eq, ← List.flatMap_append, List.take_append_drop]
    obtain ⟨h1, h2, h3, h4⟩ := qm.2
    have hrow6' := hrow6
    rw [e3] at hrow6'
    obtain ⟨_, dr6, er6⟩ := id hrow6
    have lvs := dta_len hvs6
    rw [List.length_map, List.length_take] at lvs
    have ql : (qsL wd ks ps).length ≤ 4 := by
      have := congrArg List.length (kinds_eq (wd := wd) hlen)
      rw [List.length_map] at this
      have := List.length_filter_le (fun kd => decide (kd ≠ ("body" : Str)) && decide (wd ≠ ("try" : Str))) ks
      have := shape_len hk
      omega
    walk_at "wp"
    refine ⟨tyL el6, dr6, _, er6, rfl, rp, kd, _, _, d, rfl, hrow6', ⟨fun z => by
      obtain ⟨es', a1, a2, a3⟩ := h1 z
      exact ⟨es', a1, a2, a3, by rw [args_last hk hlen eq z]; rfl⟩, h2, h3, h4⟩, flat_lead _ (fun q hq => hqm q (List.mem_of_mem_drop hq)), fun H8 v X8 hr8 gv => ?_⟩
    rw [← e3] at hr8
    have el8 := X8.x _ _ nlrp el6
    refine app_ask el8 (by simp only [List.length_cons]; omega) ?_
    have t9 := tups_lst el8 (.lst (V.str wd :: vs ++ [v]))
    refine ⟨(X6.via nrpH X8).at nlH _, (hrd6.sx X8 er6 nprp).at nlH hrd00 nlpp, ?_, by rw [upd_ne nkl1]; exact X8.x _ _ nkl2 ekl6, vs ++ [v], upd_same, ?_⟩
    · rw [flat_take_succ (fun q : Str × PyData => partC q.1 q.2) eq]
      obtain ⟨a1, dr8, er8⟩ := hr8
      exact ⟨a1, dr8, by rw [upd_ne (Ne.symm nlrp)]; exact er8⟩
    · rw [List.take_add_one, eq, List.map_append]
      exact dta_app (hvs6.keep (X8.t.trans t9)) (.cons (gv.keep t9) .nil)
  rintro σ H6 ⟨x8, rfl, X6, hrd6, hrow6, ekl6, vs, el6, hvs6⟩
  rw [List.take_of_length_le (by simp)] at hrow6 hvs6
  obtain ⟨_, _, dx6, hp6, _, _⟩ := id hrd6
  walk_at "wp"
  refine sq ?_
  walk_at "wp"
  refine ⟨dx6, _, hp6, rfl, p, la, ls, k, rp, _, rfl, hrd6, hrow6, fun H7 X7 hrd7 => ?_⟩
  have el7 := X7.x _ _ nlpp el6
  have hvs7 := hvs6.keep X7.t
  have X17 := X6.trans X7
  refine sq ?_
  walk_at "wp"
  refine shp_ask T hk fun tS2 hS3 hS4 => ⟨tS2, rfl, _, .inr hS3, rfl, all_flat _, ?_⟩
  rw [in_strs]
  rcases shape_form hk with ⟨hnb, hnt, _, _⟩ | hrest
  · have e1 : ks.contains ("body" : Str) = false := by simpa using hnb
    refine iteTb (by rw [e1]; rfl) ⟨V.str wd :: vs, .inl ⟨.of el7, fun t2 nt2 => ?_⟩⟩
    have s8 := same_new nt2 (.tup (V.str wd :: vs))
    rw [qs_all hnb hnt hlen] at hvs7
    rw [bodies_none hnb] at q
    exact q _ _ (X17.trans (.of s8)) (hrd7.same s8) (.tup (.inl (.inl upd_same)) (.cons (by rw [← ewd]; exact .str _ (by have := (name_S hwn).2.1; rw [S_len]; omega)) (hvs7.keep (tups_of s8))))
  · have hwb : ks.contains ("body" : Str) = true := by
      rcases hrest with ⟨_, rfl⟩ | ⟨_, rfl⟩ | ⟨_, rfl⟩ <;> decide +kernel
    refine iteFb (by rw [hwb]; rfl) ?_
    obtain ⟨_, _, dx7, hp7, _, _⟩ := id hrd7
    refine sq ?_
    walk_at "wp"
    refine ⟨tyL el7, dx7, _, hp7, rfl, ?_⟩
    have et : ((dp : Int) + 1) = ((dp + 1 : Nat) : Int) := by omega
    have hLt := hL.tail
    rcases hrest with ⟨rfl, rfl⟩ | ⟨rfl, rfl⟩ | ⟨rfl, rfl⟩
    · obtain ⟨b, rfl⟩ : ∃ b, ps = [b] := by
        match ps, hlen with
        | [b], _ => exact ⟨b, rfl⟩
      have eb : bodiesL ["body"] [b] = [b] := rfl
      rw [eb] at hL hT q hLt hbod
      have ef : ([b].zipIdx.flatMap fun q : PyData × Nat => (if q.2 = 1 then [indT dp (midT "loop" [b])] else []) ++ bodyT n (dp + 1) q.1) = bodyT n (dp + 1) b := by simp
      rw [ef] at hL hT q hLt
      rw [List.length_cons] at hT q
      refine ⟨p, la, ls, k + 1, dp + 1, b, by rw [et], hrd7, hbod b List.mem_cons_self, by omega, hLt, by rw [show k + 1 + (bodyT n (dp + 1) b).length = k + ((bodyT n (dp + 1) b).length + 1) by omega]; exact hT, fun H8 v X8 hrd8 gv => ?_⟩
      have el8 := X8.x _ _ nlpp el7
      have eqs : qsL "loop" ["body"] [b] = [] := rfl
      rw [eqs] at hvs7
      obtain rfl := hvs7.nilI
      refine app_ask el8 (by simp; omega) ?_
      have t9 := tups_lst el8 (.lst ([V.str (Str.ofString "loop")] ++ [v]))
      have X9 := (X17.trans X8).at nlH (.lst ([V.str (Str.ofString "loop")] ++ [v]))
      have hrd9 : RdAt K (upd H8 lp (.lst ([V.str (Str.ofString "loop")] ++ [v]))) p la ls (k + 1 + (bodyT n (dp + 1) b).length) := hrd8.at nlH hrd00 nlpp
      refine sq ?_
      walk_at "wp"
      refine ⟨rfl, iteTb (decide_eq_true trivial) ⟨_, .inl ⟨.of upd_same, fun t2 nt2 => ?_⟩⟩⟩
      have s10 := same_new nt2 (.tup ([V.str (Str.ofString "loop")] ++ [v]))
      refine q _ _ (X9.trans (.of s10)) (by rw [show k + ((bodyT n (dp + 1) b).length + 1) = k + 1 + (bodyT n (dp + 1) b).length by omega]; exact hrd9.same s10) (.tup (.inl (.inl upd_same)) (.cons (.str _ (by decide)) (.cons (gv.keep (t9.trans (tups_of s10))) .nil)))
    · obtain ⟨ex, b0, b1, rfl⟩ : ∃ ex b0 b1, ps = [ex, b0, b1] := by
        match ps, hlen with
        | [a, b, c], _ => exact ⟨a, b, c, rfl⟩
      have eb : bodiesL ["expression", "body", "body"] [ex, b0, b1] = [b0, b1] := rfl
      rw [eb] at hL hT q hLt hbod
      have em : midT "if" [ex, b0, b1] = (["else"] : List Str) := rfl
      have ef : ([b0, b1].zipIdx.flatMap fun q : PyData × Nat => (if q.2 = 1 then [indT dp (midT "if" [ex, b0, b1])] else []) ++ bodyT n (dp + 1) q.1) = bodyT n (dp + 1) b0 ++ (indT dp (["else"] : List Str) :: bodyT n (dp + 1) b1) := by rw [em]; simp
      rw [ef] at hL hT q hLt
      rw [List.length_cons, List.length_append, List.length_cons] at hT q
      have hL0 := hLt.left
      have hL1 := hLt.right
      have hmid := hL1.head
      have hL2 := hL1.tail
      rw [ind_codes dp (by omega)] at hmid
      have hmid : ls[k + 1 + (bodyT n (dp + 1) b0).length]? = some (List.replicate (dp * 2) 32 ++ ((("else" : String) : Str).cps.toList ++ [])) := hmid
      refine ⟨p, la, ls, k + 1, dp + 1, b0, by rw [et], hrd7, hbod b0 (by simp), by omega, hL0, .inr ⟨dp * 2, _, hmid, fun c r e => by have := (List.cons.inj (show 101 :: _ = c :: r from e)).1; omega, by omega⟩, fun H8 v X8 hrd8 gv => ?_⟩
      have el8 := X8.x _ _ nlpp el7
      have lvs : vs.length = 1 := dta_len hvs7
      refine app_ask el8 (by simp; omega) ?_
      have t9 := tups_lst el8 (.lst (V.str (Str.ofString "if") :: vs ++ [v]))
      have X9 := (X17.trans X8).at nlH (.lst (V.str (Str.ofString "if") :: vs ++ [v]))
      have hrd9 : RdAt K (upd H8 lp (.lst (V.str (Str.ofString "if") :: vs ++ [v]))) p la ls (k + 1 + (bodyT n (dp + 1) b0).length) := hrd8.at nlH hrd00 nlpp
      obtain ⟨_, _, dx9, hp9, _, _⟩ := id hrd9
      have el9 : (upd H8 lp (.lst (V.str (Str.ofString "if") :: vs ++ [v]))) lp = some (.lst (V.str (Str.ofString "if") :: vs ++ [v])) := upd_same
      have hvs9 := hvs7.keep (X8.t.trans t9)
      have gv9 := gv.keep t9
      generalize upd H8 lp (.lst (V.str (Str.ofString "if") :: vs ++ [v])) = H9 at X9 hrd9 hp9 el9 hvs9 gv9 ⊢
      refine sq ?_
      walk_at "wp"
      refine ⟨rfl, iteFb (by decide +kernel) ?_⟩
      refine sq ?_
      walk_at "wp"
      refine ⟨tyL el9, dx9, _, hp9, rfl, rfl, iteTb (decide_eq_true trivial) ?_⟩
      refine ⟨p, la, ls, _, dp, (("else" : String) : Str).cps.toList, [], [], by rw [S_tl], hrd9, by omega, hmid, fun c r e => by have := (List.cons.inj (show 101 :: _ = c :: r from e)).1; omega, by decide +kernel, .inr ⟨by decide +kernel, rfl, rfl⟩, fun H10 ml X10 hrd10 nml eml => ?_⟩
      have el10 := X10.x _ _ nlpp el9
      refine ext_ask el10 eml (by simp; omega) ?_
      rw [List.map_nil, List.append_nil]
      have t11 := tups_lst el10 (.lst (V.str (Str.ofString "if") :: vs ++ [v]))
      have X11 := (X9.trans X10).at nlH (.lst (V.str (Str.ofString "if") :: vs ++ [v]))
      have hrd11 : RdAt K (upd H10 lp (.lst (V.str (Str.ofString "if") :: vs ++ [v]))) p la ls (k + 1 + (bodyT n (dp + 1) b0).length + 1) := hrd10.at nlH hrd00 nlpp
      obtain ⟨_, _, dx11, hp11, _, _⟩ := id hrd11
      have el11 : (upd H10 lp (.lst (V.str (Str.ofString "if") :: vs ++ [v]))) lp = some (.lst (V.str (Str.ofString "if") :: vs ++ [v])) := upd_same
      have hvs11 := hvs9.keep (X10.t.trans t11)
      have gv11 := gv9.keep (X10.t.trans t11)
      generalize upd H10 lp (.lst (V.str (Str.ofString "if") :: vs ++ [v])) = H11 at X11 hrd11 hp11 el11 hvs11 gv11 ⊢
      refine sq ?_
      walk_at "wp"
      refine ⟨tyL el11, dx11, _, hp11, rfl, ?_⟩
      refine ⟨p, la, ls, _, dp + 1, b1, by rw [et], hrd11, hbod b1 (by simp), by omega, hL2, by rw [show k + 1 + (bodyT n (dp + 1) b0).length + 1 + (bodyT n (dp + 1) b1).length = k + ((bodyT n (dp + 1) b0).length + ((bodyT n (dp + 1) b1).length + 1) + 1) by omega]; exact hT, fun H12 v1 X12 hrd12 gv1 => ?_⟩
      have el12 := X12.x _ _ nlpp el11
      refine app_ask el12 (by simp; omega) ?_
      have t13 := tups_lst el12 (.lst (V.str (Str.ofString "if") :: vs ++ [v] ++ [v1]))
      have X13 := (X11.trans X12).at nlH (.lst (V.str (Str.ofString "if") :: vs ++ [v] ++ [v1]))
      have hrd13 : RdAt K (upd H12 lp (.lst (V.str (Str.ofString "if") :: vs ++ [v] ++ [v1]))) p la ls (k + 1 + (bodyT n (dp + 1) b0).length + 1 + (bodyT n (dp + 1) b1).length) := hrd12.at nlH hrd00 nlpp
      walk_at "wp"
      refine ⟨_, .inl ⟨.of upd_same, fun t2 nt2 => ?_⟩⟩
      have s14 := same_new nt2 (.tup (V.str (Str.ofString "if") :: vs ++ [v] ++ [v1]))
      have tA := X12.t.trans (t13.trans (tups_of s14))
      have eq1 : (qsL "if" ["expression", "body", "body"] [ex, b0, b1]).map Prod.snd = [ex] := rfl
      rw [eq1] at hvs11
      refine q _ _ (X13.trans (.of s14)) (by rw [show k + ((bodyT n (dp + 1) b0).length + ((bodyT n (dp + 1) b1).length + 1) + 1) = k + 1 + (bodyT n (dp + 1) b0).length + 1 + (bodyT n (dp + 1) b1).length by omega]; exact hrd13.same s14) (.tup (.inl (.inl upd_same)) (.cons (.str _ (by decide +kernel)) ?_))
      have := dta_app (hvs11.keep tA) (.cons (gv11.keep tA) (.cons (gv1.keep (t13.trans (tups_of s14))) .nil))
      simpa using this
    · obtain ⟨b0, x, b1, rfl, hx⟩ : ∃ b0 x b1, ps = [b0, .str x, b1] ∧ nameB x = true := by
        match ps, hlen with
        | [a, b, c], _ =>
          obtain ⟨x, e, hx⟩ := (hparts ("name", b) (by simp) (show ("name" : Str) ≠ "body" by decide)).2.1 rfl
          exact ⟨a, x, c, by rw [show b = .str x from e], hx⟩
      have eb : bodiesL ["body", "name", "body"] [b0, .str x, b1] = [b0, b1] := rfl
      rw [eb] at hL hT q hLt hbod
      have em : midT "try" [b0, .str x, b1] = (["handle", x] : List Str) := rfl
      have ef : ([b0, b1].zipIdx.flatMap fun q : PyData × Nat => (if q.2 = 1 then [indT dp (midT "try" [b0, .str x, b1])] else []) ++ bodyT n (dp + 1) q.1) = bodyT n (dp + 1) b0 ++ (indT dp (["handle", x] : List Str) :: bodyT n (dp + 1) b1) := by rw [em]; simp
      rw [ef] at hL hT q hLt
      rw [List.length_cons, List.length_append, List.length_cons] at hT q
      have hL0 := hLt.left
      have hL1 := hLt.right
      have hmid := hL1.head
      have hL2 := hL1.tail
      rw [ind_codes dp (by omega)] at hmid
      have hmid : ls[k + 1 + (bodyT n (dp + 1) b0).length]? = some (List.replicate (dp * 2) 32 ++ (handleC ++ (32 :: x.cps.toList))) := by rw [hmid]; simp [handleC]
      refine ⟨p, la, ls, k + 1, dp + 1, b0, by rw [et], hrd7, hbod b0 (by simp), by omega, hL0, .inr ⟨dp * 2, _, hmid, fun c r e => by have := (List.cons.inj (show 104 :: _ = c :: r from e)).1; omega, by omega⟩, fun H8 v X8 hrd8 gv => ?_⟩
      have el8 := X8.x _ _ nlpp el7
      have eqs : qsL "try" ["body", "name", "body"] [b0, .str x, b1] = [] := rfl
      rw [eqs] at hvs7
      obtain rfl := hvs7.nilI
      refine app_ask el8 (by simp; omega) ?_
      have t9 := tups_lst el8 (.lst ([V.str (Str.ofString "try")] ++ [v]))
      have X9 := (X17.trans X8).at nlH (.lst ([V.str (Str.ofString "try")] ++ [v]))
      have hrd9 : RdAt K (upd H8 lp (.lst ([V.str (Str.ofString "try")] ++ [v]))) p la ls (k + 1 + (bodyT n (dp + 1) b0).length) := hrd8.at nlH hrd00 nlpp
      obtain ⟨_, _, dx9, hp9, _, _⟩ := id hrd9
      have el9 : (upd H8 lp (.lst ([V.str (Str.ofString "try")] ++ [v]))) lp = some (.lst ([V.str (Str.ofString "try")] ++ [v])) := upd_same
      have gv9 := gv.keep t9
      generalize upd H8 lp (.lst ([V.str (Str.ofString "try")] ++ [v])) = H9 at X9 hrd9 hp9 el9 gv9 ⊢
      refine sq ?_
      walk_at "wp"
      refine ⟨rfl, iteFb (by decide +kernel) ?_⟩
      refine sq ?_
      walk_at "wp"
      refine ⟨tyL el9, dx9, _, hp9, rfl, rfl, iteFb (by decide +kernel) ?_⟩
      refine ⟨p, la, ls, _, dp, handleC, 32 :: x.cps.toList, [x], by rw [show S handleC = (("handle" : String) : Str) from S_tl _], hrd9, by omega, hmid, fun c r e => by have := (List.cons.inj (show 104 :: _ = c :: r from e)).1; omega, by decide +kernel, .inl ⟨rfl, x, hx, rfl, rfl⟩, fun H10 ml X10 hrd10 nml eml => ?_⟩
      have el10 := X10.x _ _ nlpp el9
      refine ext_ask el10 eml (by simp; omega) ?_
      have t11 := tups_lst el10 (.lst ([V.str (Str.ofString "try")] ++ [v] ++ [x].map V.str))
      have X11 := (X9.trans X10).at nlH (.lst ([V.str (Str.ofString "try")] ++ [v] ++ [x].map V.str))
      have hrd11 : RdAt K (upd H10 lp (.lst ([V.str (Str.ofString "try")] ++ [v] ++ [x].map V.str))) p la ls (k + 1 + (bodyT n (dp + 1) b0).length + 1) := hrd10.at nlH hrd00 nlpp
      obtain ⟨_, _, dx11, hp11, _, _⟩ := id hrd11
      have el11 : (upd H10 lp (.lst ([V.str (Str.ofString "try")] ++ [v] ++ [x].map V.str))) lp = some (.lst ([V.str (Str.ofString "try")] ++ [v] ++ [x].map V.str)) := upd_same
      have gv11 := gv9.keep (X10.t.trans t11)
      generalize upd H10 lp (.lst ([V.str (Str.ofString "try")] ++ [v] ++ [x].map V.str)) = H11 at X11 hrd11 hp11 el11 gv11 ⊢
      refine sq ?_
      walk_at "wp"
      refine ⟨tyL el11, dx11, _, hp11, rfl, ?_⟩
      refine ⟨p, la, ls, _, dp + 1, b1, by rw [et], hrd11, hbod b1 (by simp), by omega, hL2, by rw [show k + 1 + (bodyT n (dp + 1) b0).length + 1 + (bodyT n (dp + 1) b1).length = k + ((bodyT n (dp + 1) b0).length + ((bodyT n (dp + 1) b1).length + 1) + 1) by omega]; exact hT, fun H12 v1 X12 hrd12 gv1 => ?_⟩
      have el12 := X12.x _ _ nlpp el11
      refine app_ask el12 (by simp; omega) ?_
      have t13 := tups_lst el12 (.lst ([V.str (Str.ofString "try")] ++ [v] ++ [x].map V.str ++ [v1]))
      have X13 := (X11.trans X12).at nlH (.lst ([V.str (Str.ofString "try")] ++ [v] ++ [x].map V.str ++ [v1]))
      have hrd13 : RdAt K (upd H12 lp (.lst ([V.str (Str.ofString "try")] ++ [v] ++ [x].map V.str ++ [v1]))) p la ls (k + 1 + (bodyT n (dp + 1) b0).length + 1 + (bodyT n (dp + 1) b1).length) := hrd12.at nlH hrd00 nlpp
      walk_at "wp"
      refine ⟨_, .inl ⟨.of upd_same, fun t2 nt2 => ?_⟩⟩
      have s14 := same_new nt2 (.tup ([V.str (Str.ofString "try")] ++ [v] ++ [x].map V.str ++ [v1]))
      have tA := X12.t.trans (t13.trans (tups_of s14))
      have hxl := name_S (L := x.cps.toList) (by rw [S_tl]; exact hx)
      refine q _ _ (X13.trans (.of s14)) (by rw [show k + ((bodyT n (dp + 1) b0).length + ((bodyT n (dp + 1) b1).length + 1) + 1) = k + 1 + (bodyT n (dp + 1) b0).length + 1 + (bodyT n (dp + 1) b1).length by omega]; exact hrd13.same s14) (.tup (.inl (.inl upd_same)) ?_)
      exact .cons (.str _ (by decide +kernel)) (.cons (gv11.keep tA) (.cons (.str _ (by rw [TL.len_tl]; show x.cps.toList.length ≤ _; omega)) (.cons (gv1.keep (t13.trans (tups_of s14))) .nil)))
end
end K91
set_option Elab.async false
set_option linter.all false
set_option maxRecDepth 100000
set_option maxHeartbeats 8000000
/-! Plain facts: what the checks let pass has a text, and is read back; sizes; codes. -/
namespace K91
open PySem PySem.Spec PyProof.Rows L2 _root_.SX PySem.NumText
/-! ### expressions -/
theorem exprP_int (n : Nat) (i : Int) : exprP n (.int i) = decide (i.natAbs ≤ 1000000000000000000000000000000000000000000000000000000000000) := by cases n <;> rfl
theorem exprP_str (n : Nat) (x : Str) : exprP n (.str x) = nameB x := by cases n <;> rfl
theorem txB_int (n : Nat) (i : Int) : txB n (.int i) = decide (i.natAbs ≤ 1000000000000000000000000000000000000000000000000000000000000) := by cases n <;> rfl
theorem txB_str (n : Nat) (x : Str) : txB n (.str x) = decide (x.length ≤ 8) := by cases n <;> rfl
theorem op_len {o : Str} (h : ops.contains o = true) : o.length ≤ 8 := by
  have z : ∀ o ∈ ops, o.length ≤ 8 := by decide +kernel
  exact z o (List.contains_iff_mem.mp h)
theorem nested_P : ∀ (n : Nat) (d : PyData), nestedB n d = true → exprP n d = true ∧ txB n d = true := by
  intro n
  induction n with
  | zero => intro d h; unfold nestedB at h; cases h
  | succ k ih =>
    intro d h
    rcases nested_cases h with ⟨i, rfl, h1, h2⟩ | ⟨x, rfl, hx⟩ | ⟨m, o, l, r, e, rfl, _, ho, hl, hr⟩
    · rw [exprP_int, txB_int]
      exact ⟨decide_eq_true (limit_abs h1 h2), decide_eq_true (limit_abs h1 h2)⟩
    · rw [exprP_str, txB_str]
      exact ⟨hx, decide_eq_true (name_len hx)⟩
    · cases e
      have i1 := ih l hl
      have i2 := ih r hr
      refine ⟨?_, ?_⟩
      · show (ops.contains o && exprP k l && exprP k r) = true
        rw [ho, i1.1, i2.1]; rfl
      · show (decide (o.length ≤ 8) && txB k l && txB k r) = true
        rw [decide_eq_true (op_len ho), i1.2, i2.2]; rfl
theorem nested_mono : ∀ {n : Nat} {m : Nat} {d : PyData}, n ≤ m → nestedB n d = true → nestedB m d = true := by
  intro n
  induction n with
  | zero => intro m d _ h; unfold nestedB at h; cases h
  | succ k ih =>
    intro m d hm h
    obtain ⟨j, rfl⟩ : ∃ j, m = j + 1 := ⟨m - 1, by omega⟩
    rcases nested_cases h with ⟨i, rfl, h1, h2⟩ | ⟨x, rfl, hx⟩ | ⟨m', o, l, r, e, rfl, hne, ho, hl, hr⟩
    · show (isValD (.int i) || _ || _) = true
      have : isValD (.int i) = true := by show (decide (-limit ≤ i) && decide (i ≤ limit)) = true; rw [decide_eq_true h1, decide_eq_true h2]; rfl
      rw [this]; rfl
    · show (isValD (.str x) || nameB x || _) = true
      rw [hx, Bool.or_true]; rfl
    · cases e
      show (isValD _ || isNameD _ || (j != 0 && ops.contains o && nestedB j l && nestedB j r)) = true
      have hj : (j != 0) = true := by simp; omega
      rw [ih (m := j) (by omega) hl, ih (m := j) (by omega) hr, ho, hj]
      simp
/-- every code of an expression's text -/
theorem exprC_ge : ∀ (n : Nat) (d : PyData), exprP n d = true → ∀ c ∈ exprC n d, 32 ≤ c := by
  intro n
  induction n with
  | zero =>
    intro d h c hc
    rcases exprP_kind h with ⟨i, rfl, hi⟩ | ⟨x, rfl, hx⟩ | ⟨ds, rfl⟩
    · rw [exprC_int] at hc
      unfold numC at hc
      split at hc
      · rcases List.mem_cons.mp hc with rfl | hc
        · omega
        · have := TL.numL_digits _ _ hc; omega
      · have := TL.numL_digits _ _ hc; omega
    · rw [exprC_str] at hc
      rw [exprP_str] at h
      have := (name_S (L := x.cps.toList) (by rw [S_tl]; exact h)).2.2 c hc
      omega
    · obtain ⟨m, _, _, _, e, _⟩ := exprP_tup h
      cases e
  | succ k ih =>
    intro d h c hc
    rcases exprP_kind h with ⟨i, rfl, hi⟩ | ⟨x, rfl, hx⟩ | ⟨ds, rfl⟩
    · rw [exprC_int] at hc
      unfold numC at hc
      split at hc
      · rcases List.mem_cons.mp hc with rfl | hc
        · omega
        · have := TL.numL_digits _ _ hc; omega
      · have := TL.numL_digits _ _ hc; omega
    · rw [exprC_str] at hc
      rw [exprP_str] at h
      have := (name_S (L := x.cps.toList) (by rw [S_tl]; exact h)).2.2 c hc
      omega
    · obtain ⟨m, o, l, r, e, rfl, ho, hl, hr⟩ := exprP_tup h
      cases e
      rw [exprC_tup] at hc
      have hw := (name_S (op_word ho)).2.2
      simp only [List.mem_cons, List.mem_append, List.not_mem_nil, or_false] at hc
      rcases hc with rfl | hc | rfl | hc | rfl | hc | rfl
      · omega
      · have := hw c hc; omega
      · omega
      · exact ih l hl c hc
      · omega
      · exact ih r hr c hc
      · omega
/-! ### statements that the checks let pass -/
theorem jump_word {wd : Str} {ks : List Str} (h : shapeOf wd = some ks) (j : ("jump" : Str) ∈ ks) : wd = "break" ∨ wd = "continue" := by
  have z : ∀ s ∈ shapes, ("jump" : Str) ∈ s.2 → s.1 = "break" ∨ s.1 = "continue" := by decide +kernel
  exact z (wd, ks) (shapeOf_mem h) j
theorem jump_small {c : Cx91} {l : Nat} {wd : Str} {ks : List Str} {ps : List PyData} (hl : l ≤ 60) (hk : shapeOf wd = some ks) (hu : usesOk c l wd ps) {q : Str × PyData} (hq : q ∈ ks.zip ps) (e : q.1 = "jump") (i : Int) (hi : q.2 = .int i) (h1 : 1 ≤ i) : smallI i := by
  have hz := List.of_mem_zip (a := q.1) (b := q.2) hq
  obtain ⟨k, rfl, hk2⟩ := hu.2.2.2.2 (jump_word hk (e ▸ hz.1))
  have := hz.2
  rw [hi, List.mem_singleton] at this
  cases this
  unfold smallI
  omega
theorem try_kinds : shapeOf "try" = some (["body", "name", "body"] : List Str) := by decide +kernel
theorem try_parts {ks : List Str} {ps : List PyData} (hk : shapeOf "try" = some ks) (hl : ps.length = ks.length) (h : ∀ q ∈ ks.zip ps, q.1 = "name" → isNameD q.2 = true) : ∃ a x b, ps = [a, .str x, b] ∧ nameB x = true := by
  rw [try_kinds] at hk
  cases hk
  match ps, hl, h with
  | [a, n, b], _, h =>
    obtain ⟨x, e, hx⟩ := isName_str (h ("name", n) (by simp) rfl)
    exact ⟨a, x, b, by rw [show n = .str x from e], hx⟩
theorem ok_R {c : Cx91} : ∀ (n l : Nat) (d : PyData), n + l ≤ 60 → bodyOk c n l d → bodyR n d ∧ bodyTx n d
  | 0, _, _, _, h => h.elim
  | n + 1, l, d, hn, h => by
    obtain ⟨ds, rfl, l1, l2, hs⟩ := h
    have key : ∀ s ∈ ds, stmtR (bodyR n) s ∧ stmtTx (bodyTx n) s := fun s hm => by
      obtain ⟨wd, ps, ks, rfl, hk, hp, hu, hB⟩ := hs s hm
      have hl' : (if wd = "loop" then l + 1 else l) ≤ l + 1 := by split <;> omega
      have hB' := fun b hb => ok_R n _ b (by omega) (hB b hb)
      have hlen := partsB_len hp
      have hall := partsB_all hp
      have hkn := kinds_known hk
      have hc := fun (q : Str × PyData) (hq : q ∈ ks.zip ps) => part_cases (hkn q.1 (List.of_mem_zip (a := q.1) (b := q.2) hq).1) (hall q hq)
      refine ⟨⟨wd, ps, ks, rfl, hk, hlen, fun q hq nb => ?_, fun b hb => (hB' b hb).1⟩, ⟨wd, ps, ks, rfl, hk, ⟨hlen, fun q hq => ?_⟩, fun e => ?_, fun b hb => (hB' b hb).2⟩⟩
      · rcases hc q hq with ⟨e, x, e2, hx⟩ | ⟨e, h⟩ | ⟨e, i, e2, h1⟩ | ⟨e, es, e2, l5, h⟩ | e
        · unfold partR
          rw [e, e2]
          exact ⟨fun z => absurd z (by decide), fun _ => ⟨x, rfl, hx⟩, fun z => absurd z (by decide), fun _ => by rw [exprP_str]; exact hx⟩
        · unfold partR
          rw [e]
          exact ⟨fun z => absurd z (by decide), fun z => absurd z (by decide), fun z => absurd z (by decide), fun _ => (nested_P 6 _ h).1⟩
        · have sm := jump_small (by omega) hk hu hq e i e2 h1
          unfold partR
          rw [e, e2]
          exact ⟨fun z => absurd z (by decide), fun z => absurd z (by decide), fun _ => ⟨i, rfl, sm⟩, fun _ => by rw [exprP_int]; exact decide_eq_true sm⟩
        · unfold partR
          rw [e, e2]
          exact ⟨fun _ => ⟨es, rfl, fun x hx => (nested_P 6 x (h x hx)).1, by omega⟩, fun z => absurd z (by decide), fun z => absurd z (by decide), fun z => absurd rfl z⟩
        · exact absurd e nb
      · rcases hc q hq with ⟨e, x, e2, hx⟩ | ⟨e, h⟩ | ⟨e, i, e2, h1⟩ | ⟨e, es, e2, l5, h⟩ | e
        · unfold partTx
          rw [e, e2]
          exact ⟨fun z => absurd z (by decide), fun _ _ => by rw [txB_str]; exact decide_eq_true (name_len hx)⟩
        · unfold partTx
          rw [e]
          exact ⟨fun z => absurd z (by decide), fun _ _ => (nested_P 6 _ h).2⟩
        · have sm := jump_small (by omega) hk hu hq e i e2 h1
          unfold partTx
          rw [e, e2]
          exact ⟨fun z => absurd z (by decide), fun _ _ => by rw [txB_int]; exact decide_eq_true sm⟩
        · unfold partTx
          rw [e, e2]
          exact ⟨fun _ => ⟨es, rfl, l5, fun x hx => (nested_P 6 x (h x hx)).2⟩, fun z => absurd rfl z⟩
        · unfold partTx
          rw [e]
          exact ⟨fun z => absurd z (by decide), fun _ z => absurd rfl z⟩
      · subst e
        obtain ⟨a, x, b, e1, e2⟩ := try_parts hk hlen fun q hq e => by
          have := hall q hq
          rw [e] at this
          exact this
        exact ⟨a, x, b, e1, name_len e2⟩
    exact ⟨⟨ds, rfl, l1, l2, fun s hm => (key s hm).1⟩, ⟨ds, rfl, l2, fun s hm => (key s hm).2⟩⟩
/-! ### statements of the law -/
def args3 : PyData → Bool
  | .tuple es => decide (es.length ≤ 5) && es.all (nestedB 3)
  | _ => false
def part3 (kind : Str) (d : PyData) : Bool :=
  if kind = "name" then isNameD d else if kind = "expression" then nestedB 3 d else if kind = "jump" then jumpB d else if kind = "args" then args3 d else true
def lawS (c : Cx91) (B : Nat → PyData → Prop) (loops : Nat) (d : PyData) : Prop := ∃ wd ps ks, d = .tuple (.str wd :: ps) ∧ shapeOf wd = some ks ∧ ps.length = ks.length ∧ (∀ q ∈ ks.zip ps, part3 q.1 q.2 = true) ∧ usesOk c loops wd ps ∧
  ∀ b ∈ bodiesL ks ps, B (if wd = "loop" then loops + 1 else loops) b
def lawB (c : Cx91) : Nat → Nat → PyData → Prop
  | 0, _, _ => False
  | n + 1, loops, d => ∃ ds, d = .tuple ds ∧ 1 ≤ ds.length ∧ ds.length ≤ 20 ∧ ∀ s ∈ ds, lawS c (lawB c n) loops s
theorem args3_of {d : PyData} (h : args3 d = true) : ∃ es, d = .tuple es ∧ es.length ≤ 5 ∧ ∀ e ∈ es, nestedB 3 e = true := by
  unfold args3 at h
  split at h
  · rename_i es
    rw [Bool.and_eq_true, decide_eq_true_eq, List.all_eq_true] at h
    exact ⟨es, rfl, h.1, h.2⟩
  · cases h
theorem part3_B {k : Str} {d : PyData} (h : part3 k d = true) : partB k d = true := by
  unfold part3 at h
  unfold partB
  split at h
  · rename_i c; rw [if_pos c]; exact h
  rename_i c1; rw [if_neg c1]
  split at h
  · rename_i c; rw [if_pos c]; exact nested_mono (by omega) h
  rename_i c2; rw [if_neg c2]
  split at h
  · rename_i c; rw [if_pos c]; exact h
  rename_i c3; rw [if_neg c3]
  split at h
  · rename_i c; rw [if_pos c]
    obtain ⟨es, rfl, l5, hs⟩ := args3_of h
    show (decide (((es.length : Nat) : Int) ≤ 5) && es.all (nestedB 6)) = true
    rw [decide_eq_true (by omega), Bool.true_and, List.all_eq_true]
    exact fun e he => nested_mono (by omega) (hs e he)
  · rename_i c; rw [if_neg c]
theorem lawB_ok {c : Cx91} : ∀ (n l : Nat) (d : PyData), lawB c n l d → bodyOk c n l d
  | 0, _, _, h => h.elim
  | n + 1, l, d, h => by
    obtain ⟨ds, rfl, l1, l2, hs⟩ := h
    refine ⟨ds, rfl, l1, l2, fun s hm => ?_⟩
    obtain ⟨wd, ps, ks, rfl, hk, hl, hp, hu, hB⟩ := hs s hm
    refine ⟨wd, ps, ks, rfl, hk, ?_, hu, fun b hb => lawB_ok n _ b (hB b hb)⟩
    unfold partsB
    rw [Bool.and_eq_true, List.all_eq_true]
    exact ⟨by simpa using hl, fun q hq => part3_B (hp q hq)⟩
theorem uses_mono {c c' : Cx91} {l : Nat} {wd : Str} {ps : List PyData} (h1 : ∀ f, c'.sizes.lookup f = c.sizes.lookup f) (h2 : ∀ b ∈ c.boxes, b ∈ c'.boxes) (h : usesOk c l wd ps) : usesOk c' l wd ps := by
  obtain ⟨a1, a2, a3, a4, a5⟩ := h
  refine ⟨fun e => ?_, fun e => ?_, fun e => ?_, fun e => ?_, a5⟩
  · obtain ⟨x, f, es, e1, e2⟩ := a1 e
    exact ⟨x, f, es, e1, by rw [h1]; exact e2⟩
  · obtain ⟨x, f, es, e1, e2⟩ := a2 e
    exact ⟨x, f, es, e1, by rw [h1]; exact e2⟩
  · obtain ⟨b, x, e1, e2⟩ := a3 e
    exact ⟨b, x, e1, h2 b e2⟩
  · obtain ⟨x, b, e1, e2⟩ := a4 e
    exact ⟨x, b, e1, h2 b e2⟩
theorem lawB_ctx {c c' : Cx91} (h1 : ∀ f, c'.sizes.lookup f = c.sizes.lookup f) (h2 : ∀ b ∈ c.boxes, b ∈ c'.boxes) : ∀ (n l : Nat) (d : PyData), lawB c n l d → lawB c' n l d
  | 0, _, _, h => h.elim
  | n + 1, l, d, h => by
    obtain ⟨ds, rfl, l1, l2, hs⟩ := h
    refine ⟨ds, rfl, l1, l2, fun s hm => ?_⟩
    obtain ⟨wd, ps, ks, rfl, hk, hl, hp, hu, hB⟩ := hs s hm
    exact ⟨wd, ps, ks, rfl, hk, hl, hp, uses_mono h1 h2 hu, fun b hb => lawB_ctx h1 h2 n _ b (hB b hb)⟩
/-! ### sizes and codes of lines -/
theorem exprT_up : ∀ {n m : Nat} {d : PyData}, txB n d = true → n ≤ m → exprT m d = exprT n d := by
  intro n
  induction n with
  | zero =>
    intro m d h _
    rcases txB_kind h with ⟨i, rfl, hi⟩ | ⟨x, rfl, hx⟩ | ⟨ds, rfl⟩
    · rw [exprT_int, exprT_int]
    · rw [exprT_str, exprT_str]
    · obtain ⟨m, _, _, _, e, _⟩ := txB_tup h
      cases e
  | succ k ih =>
    intro m d h hm
    obtain ⟨j, rfl⟩ : ∃ j, m = j + 1 := ⟨m - 1, by omega⟩
    rcases txB_kind h with ⟨i, rfl, hi⟩ | ⟨x, rfl, hx⟩ | ⟨ds, rfl⟩
    · rw [exprT_int, exprT_int]
    · rw [exprT_str, exprT_str]
    · obtain ⟨m', o, l, r, e, rfl, _, hl, hr⟩ := txB_tup h
      cases e
      show Str.empty ++ "(" ++ o ++ " " ++ exprT j l ++ " " ++ exprT j r ++ ")" = Str.empty ++ "(" ++ o ++ " " ++ exprT k l ++ " " ++ exprT k r ++ ")"
      rw [ih hl (by omega), ih hr (by omega)]
theorem expr3_len {d : PyData} (h : nestedB 3 d = true) : (exprC 6 d).length ≤ 588 := by
  have h2 := (nested_P 3 d h).2
  have e : (exprC 6 d).length = (exprT 6 d).length := (TL.len_tl _).symm
  rw [e, exprT_up h2 (by omega)]
  have := exprT_len 3 d h2
  omega
theorem args_codes_len {es : List PyData} (h : ∀ e ∈ es, nestedB 3 e = true) : (argsC es).length ≤ 589 * es.length := by
  induction es with
  | nil => exact Nat.zero_le _
  | cons e r ih =>
    have e1 : argsC (e :: r) = (32 :: exprC 6 e) ++ argsC r := rfl
    have h1 := expr3_len (h e List.mem_cons_self)
    have h2 := ih fun x hx => h x (List.mem_cons_of_mem _ hx)
    rw [e1, List.length_append, List.length_cons, List.length_cons]
    omega
theorem name_nested {x : Str} (m : Nat) (h : nameB x = true) : nestedB (m + 1) (.str x) = true := by
  show (isValD (.str x) || nameB x || _) = true
  rw [h, Bool.or_true]; rfl
theorem jump_codes {i : Int} (h : smallI i) : (exprC 6 (.int i)).length ≤ 62 := by
  rw [exprC_int]
  exact (numC_len h).1
/-- a part's codes -/
theorem part_codes {c : Cx91} {l : Nat} {wd : Str} {ks : List Str} {ps : List PyData} (hl : l ≤ 60) (hk : shapeOf wd = some ks) (hu : usesOk c l wd ps) {q : Str × PyData} (hq : q ∈ ks.zip ps) (h : part3 q.1 q.2 = true) (nb : q.1 ≠ "body") :
    (partC q.1 q.2).length ≤ 2945 ∧ ∀ c ∈ partC q.1 q.2, 32 ≤ c := by
  have hkn := kinds_known hk q.1 (List.of_mem_zip (a := q.1) (b := q.2) hq).1
  rcases part_cases hkn (part3_B h) with ⟨e, x, e2, hx⟩ | ⟨e, _⟩ | ⟨e, i, e2, h1⟩ | ⟨e, _⟩ | e
  · have hn := name_nested 2 hx
    rw [e, e2]
    have ep : partC "name" (.str x) = 32 :: exprC 6 (.str x) := rfl
    rw [ep]
    have := expr3_len hn
    refine ⟨by rw [List.length_cons]; omega, fun c hc => ?_⟩
    rcases List.mem_cons.mp hc with rfl | hc
    · exact Nat.le_refl _
    · exact exprC_ge 6 _ (by rw [exprP_str]; exact hx) c hc
  · have h3 : nestedB 3 q.2 = true := by rw [e] at h; exact h
    rw [e]
    have ep : partC "expression" q.2 = 32 :: exprC 6 q.2 := rfl
    rw [ep]
    have := expr3_len h3
    refine ⟨by rw [List.length_cons]; omega, fun c hc => ?_⟩
    rcases List.mem_cons.mp hc with rfl | hc
    · exact Nat.le_refl _
    · exact exprC_ge 6 _ (nested_P 6 _ (nested_mono (by omega) h3)).1 c hc
  · have sm := jump_small hl hk hu hq e i e2 h1
    rw [e, e2]
    have ep : partC "jump" (.int i) = 32 :: exprC 6 (.int i) := rfl
    rw [ep]
    have := jump_codes sm
    refine ⟨by rw [List.length_cons]; omega, fun c hc => ?_⟩
    rcases List.mem_cons.mp hc with rfl | hc
    · exact Nat.le_refl _
    · exact exprC_ge 6 _ (by rw [exprP_int]; exact decide_eq_true sm) c hc
  · have h3 : args3 q.2 = true := by rw [e] at h; exact h
    obtain ⟨es, e2, l5, hs⟩ := args3_of h3
    rw [e, e2]
    have ep : partC "args" (.tuple es) = argsC es := rfl
    rw [ep]
    have := args_codes_len hs
    refine ⟨by omega, fun c hc => ?_⟩
    obtain ⟨x, hx, hc⟩ := List.mem_flatMap.mp hc
    rcases List.mem_cons.mp hc with rfl | hc
    · exact Nat.le_refl _
    · exact exprC_ge 6 _ (nested_P 6 _ (nested_mono (by omega) (hs x hx))).1 c hc
  · exact absurd e nb
theorem flat_bound {α : Type} {g : α → List Nat} {m : Nat} : ∀ {l : List α}, (∀ x ∈ l, (g x).length ≤ m ∧ ∀ c ∈ g x, 32 ≤ c) → (l.flatMap g).length ≤ m * l.length ∧ ∀ c ∈ l.flatMap g, 32 ≤ c
  | [], _ => ⟨Nat.zero_le _, fun c hc => by cases hc⟩
  | a :: r, h => by
    have h1 := h a List.mem_cons_self
    have h2 := flat_bound (g := g) (m := m) (l := r) fun x hx => h x (List.mem_cons_of_mem _ hx)
    rw [List.flatMap_cons, List.length_append, List.length_cons, Nat.mul_succ]
    refine ⟨by omega, fun c hc => ?_⟩
    rcases List.mem_append.mp hc with hc | hc
    · exact h1.2 c hc
    · exact h2.2 c hc
theorem post_bound {c : Cx91} {l : Nat} {wd : Str} {ks : List Str} {ps : List PyData} (hl : l ≤ 60) (hk : shapeOf wd = some ks) (hlen : ps.length = ks.length) (hu : usesOk c l wd ps) (hp : ∀ q ∈ ks.zip ps, part3 q.1 q.2 = true) :
    (postC wd ks ps).length ≤ 11780 ∧ ∀ c ∈ postC wd ks ps, 32 ≤ c := by
  unfold postC
  split
  · exact ⟨Nat.zero_le _, fun c hc => by cases hc⟩
  · have hk4 := shape_len hk
    have hz : (ks.zip ps).length ≤ 4 := by rw [List.length_zip]; omega
    have := flat_bound (g := fun q : Str × PyData => if q.1 = ("body" : Str) then [] else partC q.1 q.2) (m := 2945) (l := ks.zip ps) fun q hq => by
      by_cases c2 : q.1 = ("body" : Str)
      · rw [if_pos c2]
        exact ⟨Nat.zero_le _, fun c hc => by cases hc⟩
      · rw [if_neg c2]
        exact part_codes hl hk hu hq (hp q hq) c2
    unfold partsC
    refine ⟨by have := this.1; omega, this.2⟩
/-- a fit line -/
def fitL (x : Str) : Prop := x.length ≤ 13000 ∧ ∀ c ∈ x.cps.toList, 32 ≤ c
theorem rep_ge (k : Nat) : ∀ c ∈ List.replicate k 32, 32 ≤ c := fun c hc => by rw [List.eq_of_mem_replicate hc]; omega
theorem word_ge {wd : Str} {ks : List Str} (h : shapeOf wd = some ks) : wd.cps.toList.length ≤ 8 ∧ ∀ c ∈ wd.cps.toList, 32 ≤ c := by
  have := name_S (word_codes h)
  exact ⟨this.2.1, fun c hc => by have := this.2.2 c hc; omega⟩
theorem fit_of {x : Str} {dp : Nat} {a b : List Nat} (hd : dp ≤ 100) (e : x.cps.toList = List.replicate (dp * 2) 32 ++ (a ++ b)) (ha : a.length ≤ 8 ∧ ∀ c ∈ a, 32 ≤ c) (hb : b.length ≤ 11780 ∧ ∀ c ∈ b, 32 ≤ c) : fitL x := by
  refine ⟨?_, fun c hc => ?_⟩
  · rw [TL.len_tl]
    show x.cps.toList.length ≤ _
    rw [e, List.length_append, List.length_append, List.length_replicate]
    omega
  · rw [e] at hc
    rcases List.mem_append.mp hc with hc | hc
    · exact rep_ge _ c hc
    rcases List.mem_append.mp hc with hc | hc
    · exact ha.2 c hc
    · exact hb.2 c hc
theorem body_count {wd : Str} {ks : List Str} {ps : List PyData} (hk : shapeOf wd = some ks) (hl : ps.length = ks.length) : bodiesL ks ps = [] ∨ (∃ b, bodiesL ks ps = [b]) ∨ ∃ b0 b1, bodiesL ks ps = [b0, b1] ∧ (wd = "if" ∨ wd = "try") := by
  rcases shape_form hk with ⟨hnb, _⟩ | ⟨rfl, rfl⟩ | ⟨rfl, rfl⟩ | ⟨rfl, rfl⟩
  · exact .inl (bodies_none hnb)
  · match ps, hl with
    | [b], _ => exact .inr (.inl ⟨b, rfl⟩)
  · match ps, hl with
    | [a, b, c], _ => exact .inr (.inr ⟨b, c, rfl, .inl rfl⟩)
  · match ps, hl with
    | [a, b, c], _ => exact .inr (.inr ⟨a, c, rfl, .inr rfl⟩)
theorem name_ge {x : Str} (h : nameB x = true) : x.cps.toList.length ≤ 8 ∧ ∀ c ∈ x.cps.toList, 32 ≤ c := by
  have := name_S (L := x.cps.toList) (by rw [S_tl]; exact h)
  exact ⟨this.2.1, fun c hc => by have := this.2.2 c hc; omega⟩
theorem mid_fit {wd : Str} {ks : List Str} {ps : List PyData} {dp : Nat} (hd : dp ≤ 100) (hk : shapeOf wd = some ks) (hl : ps.length = ks.length) (hp : ∀ q ∈ ks.zip ps, part3 q.1 q.2 = true) (h : wd = "if" ∨ wd = "try") : fitL (indT dp (midT wd ps)) := by
  rcases h with rfl | rfl
  · have e : midT "if" ps = (["else"] : List Str) := rfl
    rw [e]
    exact fit_of hd (ind_codes dp hd "else" []) (by decide +kernel) ⟨Nat.zero_le _, fun c hc => by cases hc⟩
  · obtain ⟨a, x, b, rfl, hx⟩ := try_parts hk hl fun q hq e => by
      have := hp q hq
      rw [e] at this
      exact this
    have e : midT "try" [a, .str x, b] = (["handle", x] : List Str) := rfl
    rw [e]
    have hg := name_ge hx
    refine fit_of hd (ind_codes dp hd "handle" [x]) (by decide +kernel) ⟨by simp only [List.flatMap_cons, List.flatMap_nil, List.append_nil, List.length_cons]; omega, fun c hc => ?_⟩
    simp only [List.flatMap_cons, List.flatMap_nil, List.append_nil, List.mem_cons] at hc
    rcases hc with rfl | hc
    · exact Nat.le_refl _
    · exact hg.2 c hc
theorem law_lines {c : Cx91} : ∀ (n l dp : Nat) (d : PyData), n + l ≤ 60 → n + dp ≤ 60 → lawB c n l d → (∀ x ∈ bodyT n dp d, fitL x) ∧ (bodyT n dp d).length ≤ 2 * cntB n d
  | 0, _, _, _, _, _, h => h.elim
  | n + 1, l, dp, d, hn, hd, h => by
    obtain ⟨ds, rfl, l1, l2, hs⟩ := h
    have key : ∀ s ∈ ds, (∀ x ∈ stmtT (bodyT n (dp + 1)) dp s, fitL x) ∧ (stmtT (bodyT n (dp + 1)) dp s).length ≤ 2 * cntS (cntB n) s := fun s hm => by
      obtain ⟨wd, ps, ks, rfl, hk, hl, hp, hu, hB⟩ := hs s hm
      have hl' : (if wd = "loop" then l + 1 else l) ≤ l + 1 := by split <;> omega
      have hB' := fun b hb => law_lines n _ (dp + 1) b (by omega) (by omega) (hB b hb)
      have hR : stmtR (bodyR n) (.tuple (.str wd :: ps)) := by
        have hb : bodyOk c (n + 1) l (.tuple ds) := lawB_ok (n + 1) l _ ⟨ds, rfl, l1, l2, hs⟩
        obtain ⟨ds', e, _, _, hs'⟩ := (ok_R (n + 1) l _ hn hb).1
        cases e
        exact hs' _ hm
      obtain ⟨wd', ps', ks', e', hk', _, hpr, _⟩ := hR
      cases e'
      rw [hk] at hk'
      cases hk'
      have hfirst : fitL (indT dp (wordsT wd ks ps)) := fit_of (by omega) (line_codes (by omega) hpr) (word_ge hk) (post_bound (by omega) hk hl hu hp)
      rw [stmtT_eq hk, cntS_of hk]
      rcases body_count hk hl with e | ⟨b, e⟩ | ⟨b0, b1, e, hw⟩
      · rw [e]
        exact ⟨fun x hx => by rw [List.mem_singleton.mp hx]; exact hfirst, by simp⟩
      · rw [e]
        have h1 := hB' b (by rw [e]; exact List.mem_singleton_self b)
        simp only [List.zipIdx_cons, List.zipIdx_nil, List.flatMap_cons, List.flatMap_nil, Nat.zero_add, Nat.reduceEqDiff, if_false, List.nil_append, List.append_nil, List.map_cons, List.map_nil, List.sum_cons, List.sum_nil, List.length_cons]
        refine ⟨fun x hx => ?_, by have := h1.2; simp; omega⟩
        rcases List.mem_cons.mp hx with rfl | hx
        · exact hfirst
        · exact h1.1 x (by simpa using hx)
      · rw [e]
        have h1 := hB' b0 (by rw [e]; simp)
        have h2 := hB' b1 (by rw [e]; simp)
        have hm2 := mid_fit (dp := dp) (by omega) hk hl hp hw
        have ef : ([b0, b1].zipIdx.flatMap fun q : PyData × Nat => (if q.2 = 1 then [indT dp (midT wd ps)] else []) ++ bodyT n (dp + 1) q.1) = bodyT n (dp + 1) b0 ++ (indT dp (midT wd ps) :: bodyT n (dp + 1) b1) := by simp
        rw [ef]
        refine ⟨fun x hx => ?_, by simp only [List.length_cons, List.length_append, List.map_cons, List.map_nil, List.sum_cons, List.sum_nil]; have := h1.2; have := h2.2; omega⟩
        rcases List.mem_cons.mp hx with rfl | hx
        · exact hfirst
        rcases List.mem_append.mp hx with hx | hx
        · exact h1.1 x hx
        rcases List.mem_cons.mp hx with rfl | hx
        · exact hm2
        · exact h2.1 x hx
    show (∀ x ∈ ds.flatMap (stmtT (bodyT n (dp + 1)) dp), fitL x) ∧ (ds.flatMap (stmtT (bodyT n (dp + 1)) dp)).length ≤ 2 * (ds.map (cntS (cntB n))).sum
    clear hs l1 l2
    induction ds with
    | nil => exact ⟨fun x hx => (by cases hx), Nat.zero_le _⟩
    | cons s r ih =>
      have k1 := key s List.mem_cons_self
      have k2 := ih fun x hx => key x (List.mem_cons_of_mem _ hx)
      rw [List.flatMap_cons, List.length_append, List.map_cons, List.sum_cons]
      refine ⟨fun x hx => ?_, by have := k1.2; have := k2.2; omega⟩
      rcases List.mem_append.mp hx with hx | hx
      · exact k1.1 x hx
      · exact k2.1 x hx
end K91
set_option Elab.async false
set_option linter.all false
set_option maxRecDepth 100000
set_option maxHeartbeats 8000000
/-! Plain facts: a program's lines. -/
namespace K91
open PySem PySem.Spec PyProof.Rows L2 _root_.SX PySem.NumText
def funW : List Nat := [102, 117, 110, 99, 116, 105, 111, 110]
theorem boxLine_codes (b : Box91) : (boxLine b).cps.toList = boxC b := by
  unfold boxLine boxC boxW
  have e1 : (Str.empty ++ "box " ++ b.name ++ " " ++ b.rule ++ " " ++ ((toString b.val : String) : Str)).cps.toList = Str.empty.cps.toList ++ (("box " : String) : Str).cps.toList ++ b.name.cps.toList ++ ((" " : String) : Str).cps.toList ++ b.rule.cps.toList ++ ((" " : String) : Str).cps.toList ++ (((toString b.val : String) : Str)).cps.toList := by
    rw [cps_app, cps_app, cps_app, cps_app, cps_app, cps_app]
  rw [e1, num_text]
  have e2 : Str.empty.cps.toList ++ (("box " : String) : Str).cps.toList = [98, 111, 120, 32] := by decide +kernel
  have e3 : ((" " : String) : Str).cps.toList = [32] := by decide +kernel
  rw [e2, e3]
  simp
theorem argsC_strs (hs : List Str) : argsC (hs.map .str) = hs.flatMap fun x => 32 :: x.cps.toList := by
  induction hs with
  | nil => rfl
  | cons a r ih =>
    have e : argsC ((a :: r).map .str) = (32 :: exprC 6 (.str a)) ++ argsC (r.map .str) := rfl
    rw [e, ih, exprC_str, List.flatMap_cons]
theorem headLine_codes (f : Fn91) : (headLine f).cps.toList = funW ++ (partC "name" (.str f.name) ++ argsC (f.heads.map .str)) := by
  unfold headLine
  rw [join_codes, argsC_strs, List.flatMap_cons]
  have e1 : (("function" : String) : Str).cps.toList = funW := by decide +kernel
  have e2 : partC "name" (.str f.name) = 32 :: f.name.cps.toList := by
    rw [← exprC_str 6 f.name]; rfl
  rw [e1, e2]
/-- a program of the law -/
structure LawP (fs : List Fn91) (bs : List Box91) : Prop where
  fns : fnsOk fs
  boxes : boxesOk bs
  body : ∀ f ∈ fs, lawB (ctxOf fs bs) 8 0 f.body
  cnt : cntAll fs ≤ 500
theorem LawP.ok {fs : List Fn91} {bs : List Box91} (h : LawP fs bs) : progOk fs bs := ⟨h.fns, h.boxes, fun f hf => lawB_ok 8 0 _ (h.body f hf), by have := h.cnt; omega⟩
theorem fit_box {b : Box91} (h : boxOk b) : fitL (boxLine b) := by
  have sm : smallI b.val := limit_abs h.2.2.1 h.2.2.2
  have hv : exprC 6 (.int b.val) = numC b.val := exprC_int 6 _
  have hvl := jump_codes sm
  have hvg := exprC_ge 6 (.int b.val) (by rw [exprP_int]; exact decide_eq_true sm)
  rw [hv] at hvl hvg
  have h1 := name_ge h.1
  have h2 := name_ge (rule_name h.2.1)
  have hw : boxW.length = 3 ∧ ∀ c ∈ boxW, 32 ≤ c := by decide
  refine ⟨?_, fun c hc => ?_⟩
  · rw [TL.len_tl]
    show (boxLine b).cps.toList.length ≤ _
    rw [boxLine_codes]
    unfold boxC
    simp only [List.length_append, List.length_cons]
    omega
  · rw [boxLine_codes] at hc
    unfold boxC at hc
    simp only [List.mem_append, List.mem_cons] at hc
    rcases hc with hc | rfl | hc | rfl | hc | rfl | hc
    · exact hw.2 c hc
    · exact Nat.le_refl _
    · exact h1.2 c hc
    · exact Nat.le_refl _
    · exact h2.2 c hc
    · exact Nat.le_refl _
    · exact hvg c hc
theorem fit_head {f : Fn91} (h : fnOk f) : fitL (headLine f) := by
  have hb : (partC "name" (.str f.name) ++ argsC (f.heads.map .str)).length ≤ 11780 ∧ ∀ c ∈ partC "name" (.str f.name) ++ argsC (f.heads.map .str), 32 ≤ c := by
    have e2 : partC "name" (.str f.name) = 32 :: f.name.cps.toList := by
      rw [← exprC_str 6 f.name]; rfl
    have h1 := name_ge h.1
    have h2 := flat_bound (g := fun x : Str => 32 :: x.cps.toList) (m := 9) (l := f.heads) fun x hx => by
      have := name_ge (h.2.2.1 x hx)
      refine ⟨by rw [List.length_cons]; omega, fun c hc => ?_⟩
      rcases List.mem_cons.mp hc with rfl | hc
      · exact Nat.le_refl _
      · exact this.2 c hc
    have h3 := h.2.1
    rw [e2, argsC_strs, List.length_append, List.length_cons]
    refine ⟨by have := h2.1; omega, fun c hc => ?_⟩
    rcases List.mem_append.mp hc with hc | hc
    · rcases List.mem_cons.mp hc with rfl | hc
      · exact Nat.le_refl _
      · exact h1.2 c hc
    · exact h2.2 c hc
  have hw : funW.length ≤ 8 ∧ ∀ c ∈ funW, 32 ≤ c := by decide
  exact fit_of (dp := 0) (by omega) (by rw [headLine_codes]; rfl) hw hb
theorem lines_count {c : Cx91} : ∀ {fs : List Fn91}, (∀ f ∈ fs, lawB c 8 0 f.body) → (fs.flatMap fnLines).length ≤ fs.length + 2 * cntAll fs
  | [], _ => Nat.zero_le _
  | f :: r, h => by
    have h1 := (law_lines 8 0 1 f.body (by omega) (by omega) (h f List.mem_cons_self)).2
    have h2 := lines_count (fs := r) fun x hx => h x (List.mem_cons_of_mem _ hx)
    unfold cntAll at h2 ⊢
    have e : fnLines f = headLine f :: bodyT 8 1 f.body := rfl
    rw [List.flatMap_cons, e, List.length_append, List.length_cons, List.length_cons, List.map_cons, List.sum_cons]
    omega
theorem LawP.many {fs : List Fn91} {bs : List Box91} (h : LawP fs bs) : (progLines fs bs).length ≤ 1100 := by
  have h1 := lines_count h.body
  have h2 := h.fns.2.1
  have h3 := h.boxes.1
  have h4 := h.cnt
  unfold progLines
  rw [List.length_append, List.length_map]
  omega
theorem LawP.fit {fs : List Fn91} {bs : List Box91} (h : LawP fs bs) : ∀ x ∈ progLines fs bs, fitL x := fun x hx => by
  rcases List.mem_append.mp hx with hx | hx
  · obtain ⟨b, hb, rfl⟩ := List.mem_map.mp hx
    exact fit_box (h.boxes.2.1 b hb)
  · obtain ⟨f, hf, hx⟩ := List.mem_flatMap.mp hx
    rcases List.mem_cons.mp hx with rfl | hx
    · exact fit_head (h.fns.2.2.1 f hf)
    · exact (law_lines 8 0 1 f.body (by omega) (by omega) (h.body f hf)).1 x hx
theorem LawP.sum {fs : List Fn91} {bs : List Box91} (h : LawP fs bs) : ((progLines fs bs).map (·.length)).sum ≤ 14300000 := by
  have := sum_le (l := progLines fs bs) (m := 13000) fun x hx => (h.fit x hx).1
  have := h.many
  omega
theorem LawP.fmt {fs : List Fn91} {bs : List Box91} (h : LawP fs bs) : FmtOk fs bs where
  fns := h.fns
  boxes := h.boxes
  body := fun f hf => (ok_R 8 0 _ (by omega) (lawB_ok 8 0 _ (h.body f hf))).2
  many := by have := h.many; omega
  long := by have := h.sum; omega
/-! ### the text and its lines -/
def nlS : Str := "\n"
theorem joinL_nil : ∀ l : List (List Nat), TL.joinL [] l = l.flatten
  | [] => rfl
  | [a] => by simp [TL.joinL]
  | a :: b :: r => by
    have ih := joinL_nil (b :: r)
    show a ++ ([] ++ TL.joinL [] (b :: r)) = _
    rw [ih]
    simp
theorem joinL_snoc (s : Nat) : ∀ l : List (List Nat), TL.joinL [s] (l ++ [[]]) = (l.map fun x => x ++ [s]).flatten
  | [] => rfl
  | [a] => by simp [TL.joinL]
  | a :: b :: r => by
    have ih := joinL_snoc s (b :: r)
    show a ++ ([s] ++ TL.joinL [s] ((b :: r) ++ [[]])) = _
    rw [ih]
    simp
theorem text_eq (L : List Str) : Txt.join "" (L.map addNl) = Txt.join nlS (L ++ [Str.empty]) := by
  refine TL.ext_tl ?_
  rw [TL.join_eq, TL.join_eq, TL.tl_join, TL.tl_join]
  have e1 : TL.tl ((("" : String) : Str)) = [] := by decide +kernel
  have e2 : TL.tl nlS = [10] := by decide +kernel
  have e3 : TL.tl Str.empty = [] := by decide +kernel
  rw [e1, e2, joinL_nil, List.map_append, List.map_singleton, e3, joinL_snoc, List.map_map, List.map_map]
  congr 1
  refine List.map_congr_left fun x _ => ?_
  show TL.tl (x ++ _) = TL.tl x ++ [10]
  rw [TL.tl_append]
  congr 1
theorem LawP.split {fs : List Fn91} {bs : List Box91} (h : LawP fs bs) : Txt.split (progText fs bs) nlS = progLines fs bs ++ [Str.empty] := by
  unfold progText
  rw [text_eq]
  refine TL.split_join (s := 10) (S := []) (by decide +kernel) (by decide +kernel) (by simp) fun p hp => ?_
  rcases List.mem_append.mp hp with hp | hp
  · intro z
    have := (h.fit p hp).2 10 z
    omega
  · rw [List.mem_singleton.mp hp]
    decide +kernel
theorem LawP.len {fs : List Fn91} {bs : List Box91} (h : LawP fs bs) : (progText fs bs).length ≤ 15000000 := by
  unfold progText
  have h1 := join_len ((("" : String) : Str)) ((progLines fs bs).map addNl)
  have e1 : ((("" : String) : Str)).length = 0 := by decide +kernel
  have e2 : (((progLines fs bs).map addNl).map (·.length)).sum = ((progLines fs bs).map (·.length)).sum + (progLines fs bs).length := by
    induction progLines fs bs with
    | nil => rfl
    | cons a r ih =>
      have e3 : (addNl a).length = a.length + 1 := by
        unfold addNl
        rw [Str.length_append]
        congr 1
      simp only [List.map_cons, List.sum_cons, List.length_cons] at ih ⊢
      rw [ih, e3]
      omega
  rw [e1, e2] at h1
  have := h.sum
  have := h.many
  omega
/-- the lines as codes -/
def lsOf (fs : List Fn91) (bs : List Box91) : List (List Nat) := (progLines fs bs).map fun x => x.cps.toList
theorem ls_map (fs : List Fn91) (bs : List Box91) : ((lsOf fs bs).map fun l => V.str (S l)) = (progLines fs bs).map V.str := by
  unfold lsOf
  rw [List.map_map]
  refine List.map_congr_left fun x _ => ?_
  show V.str (S x.cps.toList) = V.str x
  rw [S_tl]
theorem lines_at (fs : List Fn91) (bs : List Box91) : LinesAt (lsOf fs bs) 0 (progLines fs bs) := fun j x e => by
  unfold lsOf
  rw [Nat.zero_add, List.getElem?_map, e]
  rfl
theorem ls_box (fs : List Fn91) (bs : List Box91) (i : Nat) (b : Box91) (e : bs[i]? = some b) : (lsOf fs bs)[i]? = some (boxC b) := by
  have := (lines_at fs bs).left (xs := bs.map boxLine) i (boxLine b) (by rw [List.getElem?_map, e]; rfl)
  rw [Nat.zero_add] at this
  rw [this, boxLine_codes]
theorem ls_fns (fs : List Fn91) (bs : List Box91) : LinesAt (lsOf fs bs) bs.length (fs.flatMap fnLines) := by
  have := (lines_at fs bs).right (xs := bs.map boxLine) (ys := fs.flatMap fnLines)
  rw [List.length_map, Nat.zero_add] at this
  exact this
theorem ls_len (fs : List Fn91) (bs : List Box91) : bs.length + (fs.flatMap fnLines).length = (lsOf fs bs).length := by
  unfold lsOf progLines
  rw [List.length_map, List.length_append, List.length_map]
theorem fun_first (post : List Nat) (h : post = [] ∨ ∃ r, post = 32 :: r) : firstW (funW ++ post) funW := ⟨by decide, by
  rcases h with e | ⟨r, e⟩
  · exact .inl (by rw [e, List.append_nil])
  · exact .inr ⟨r, by rw [e]⟩⟩
theorem head_post (f : Fn91) : ∃ r, partC "name" (.str f.name) ++ argsC (f.heads.map .str) = 32 :: r := ⟨_, rfl⟩
theorem fun_start (post : List Nat) : ∀ c r, funW ++ post = c :: r → c ≠ 32 := fun c r e => by
  have := (List.cons.inj (show 102 :: _ = c :: r from e)).1
  omega
theorem ls_other {fs : List Fn91} {bs : List Box91} (h : 1 ≤ fs.length) : ∃ l, (lsOf fs bs)[bs.length]? = some l ∧ otherLine boxW l := by
  match fs, h with
  | f :: r, _ =>
    have e := (ls_fns (f :: r) bs).head (x := headLine f) (ys := bodyT 8 1 f.body ++ r.flatMap fnLines)
    refine ⟨_, e, 0, funW ++ (partC "name" (.str f.name) ++ argsC (f.heads.map .str)), funW, by rw [headLine_codes]; rfl, fun_start _, fun_first _ (.inr (head_post f)), by decide⟩
theorem LawP.ls {fs : List Fn91} {bs : List Box91} (h : LawP fs bs) : (lsOf fs bs).length ≤ 200000 ∧ ∀ l ∈ lsOf fs bs, l.length ≤ 100000 := by
  unfold lsOf
  rw [List.length_map]
  refine ⟨by have := h.many; omega, fun l hl => ?_⟩
  obtain ⟨x, hx, rfl⟩ := List.mem_map.mp hl
  have := (h.fit x hx).1
  rw [TL.len_tl] at this
  show x.cps.toList.length ≤ _
  have e : x.cps.toList.length = (TL.tl x).length := rfl
  omega
end K91
set_option Elab.async false
set_option linter.all false
set_option maxRecDepth 100000
set_option maxHeartbeats 8000000
/-! What the law draws from. -/
namespace K91
open PySem PySem.Spec PyProof.Rows L2
/-- a source of draws -/
def SrcAt (H : Hp) (s : Addr) : Prop := ∃ x y : Int, H s = some (.lst [.int x, .int y]) ∧ 0 ≤ x ∧ 0 ≤ y ∧ y < 4294967296
theorem SrcAt.same {H H' : Hp} {s : Addr} (h : SrcAt H s) (sm : Same H H') : SrcAt H' s := by
  obtain ⟨x, y, h1, h2⟩ := h
  exact ⟨x, y, sm _ _ h1, h2⟩
theorem SX.putL {p : Addr} {xs : List V} {H : Hp} (h : H p = some (.lst xs)) (o : HO) : SX p H (upd H p o) := ⟨.put o, tups_put o h (fun _ z => by cases z) fun _ _ z => by cases z⟩
theorem SX.rfl' (p : Addr) (H : Hp) : SX p H H := .of (.refl H)
/-- a small divisor -/
theorem divp_small {i j : Int} (h : 0 < j) (hb : j.natAbs.log2 < 8000) : CDivP i j := by
  refine ⟨h, ?_⟩
  show (decide ((if (j == 0) = true then 0 else j.natAbs.log2 / 30 + 1) > 300) && decide ((if (i == 0) = true then 0 else i.natAbs.log2 / 30 + 1) > (if (j == 0) = true then 0 else j.natAbs.log2 / 30 + 1) + 150)) = false
  rw [decide_eq_false (p := (if (j == 0) = true then 0 else j.natAbs.log2 / 30 + 1) > 300) (by split <;> omega), Bool.false_and]
/-- all but p and q stays, tuples stay -/
structure SX2 (p q : Addr) (H H' : Hp) : Prop where
  x : ∀ b u, b ≠ p → b ≠ q → H b = some u → H' b = some u
  t : Tups H H'
theorem SX2.of {p q : Addr} {H H' : Hp} (h : SX p H H') : SX2 p q H H' := ⟨fun b u h1 _ e => h.x b u h1 e, h.t⟩
theorem SX2.trans {p q : Addr} {H H1 H2 : Hp} (a : SX2 p q H H1) (b : SX2 p q H1 H2) : SX2 p q H H2 := ⟨fun c u h1 h2 e => b.x c u h1 h2 (a.x c u h1 h2 e), a.t.trans b.t⟩
theorem SX2.putD {p q : Addr} {kvs : List (Key × V)} {H : Hp} (h : H q = some (.dK kvs)) (o : HO) : SX2 p q H (upd H q o) := ⟨fun b u _ h2 e => by rw [upd_ne h2]; exact e, tups_put o h (fun _ z => by cases z) fun _ _ z => by cases z⟩
theorem SX2.at {p q D : Addr} {H H' : Hp} (n : H D = none) (s : SX2 p q H H') (xs : List V) (hD : H' D = some (.lst xs)) (o : HO) : SX2 p q H (upd H' D o) := ⟨fun b u h1 h2 e => by
  have : b ≠ D := by rintro rfl; rw [n] at e; cases e
  rw [upd_ne this]
  exact s.x b u h1 h2 e, s.t.trans (tups_lst hD o)⟩
structure WorldD where
  names : List Str
  keys : List Str
  crates : List Str
  sizes : List (Str × Nat)
structure WOk (W : WorldD) : Prop where
  n4 : W.names.length = 4
  k2 : W.keys.length = 2
  c3 : W.crates.length ≤ 3
  names : ∀ x ∈ W.names, nameB x = true
  nnd : W.names.Nodup
  keys : ∀ x ∈ W.keys, nameB x = true
  crates : ∀ x ∈ W.crates, nameB x = true
  cnd : W.crates.Nodup
  z1 : 1 ≤ W.sizes.length
  z4 : W.sizes.length ≤ 4
  zn : ∀ q ∈ W.sizes, nameB q.1 = true ∧ q.2 ≤ 4
  znd : (W.sizes.map Prod.fst).Nodup
  zmain : ("main" : Str) ∈ W.sizes.map Prod.fst
def WorldK (n k c z : Addr) (left : Int) : List (Key × V) := [(.inr "names", .ref n), (.inr "keys", .ref k), (.inr "crates", .ref c), (.inr "left", .int left), (.inr "sizes", .ref z)]
/-- the world; its sizes are being walked -/
def WorldAt (H : Hp) (w : Addr) (W : WorldD) (left : Int) : Prop := ∃ n k c z od, H w = some (.dK (WorldK n k c z left)) ∧ H n = some (.lst (W.names.map V.str)) ∧ H k = some (.lst (W.keys.map V.str)) ∧ H c = some (.lst (W.crates.map V.str)) ∧ H z = some (.frz od (.dK (sizesK W.sizes)))
theorem strs_ne_src {H : Hp} {n s : Addr} {xs : List Str} (h : H n = some (.lst (xs.map V.str))) (hs : SrcAt H s) : n ≠ s := by
  rintro rfl
  obtain ⟨x, y, e, _⟩ := hs
  rw [h] at e
  have := HO.lst.inj (Option.some.inj e)
  cases xs with
  | nil => cases this
  | cons a r => cases this
theorem WorldAt.sx {H H' : Hp} {w s : Addr} {W : WorldD} {left : Int} (h : WorldAt H w W left) (hs : SrcAt H s) (X : SX s H H') : WorldAt H' w W left := by
  obtain ⟨n, k, c, z, od, h1, h2, h3, h4, h5⟩ := h
  have n0 := hs
  obtain ⟨x, y, e, _⟩ := n0
  exact ⟨n, k, c, z, od, X.x _ _ (by rintro rfl; rw [h1] at e; cases e) h1, X.x _ _ (strs_ne_src h2 hs) h2, X.x _ _ (strs_ne_src h3 hs) h3, X.x _ _ (strs_ne_src h4 hs) h4, X.x _ _ (by rintro rfl; rw [h5] at e; cases e) h5⟩
theorem WorldAt.same {H H' : Hp} {w : Addr} {W : WorldD} {left : Int} (h : WorldAt H w W left) (s : Same H H') : WorldAt H' w W left := by
  obtain ⟨n, k, c, z, od, h1, h2, h3, h4, h5⟩ := h
  exact ⟨n, k, c, z, od, s _ _ h1, s _ _ h2, s _ _ h3, s _ _ h4, s _ _ h5⟩
theorem WorldAt.ne {H : Hp} {w s : Addr} {W : WorldD} {left : Int} (h : WorldAt H w W left) (hs : SrcAt H s) : w ≠ s := by
  obtain ⟨n, k, c, z, od, h1, _⟩ := h
  obtain ⟨x, y, e, _⟩ := hs
  rintro rfl
  rw [h1] at e
  cases e
def cxW (W : WorldD) : Cx91 := ⟨W.sizes, W.crates⟩
/-- a statement without bodies -/
def lawL (c : Cx91) (d : PyData) : Prop := ∃ wd ps ks, d = .tuple (.str wd :: ps) ∧ shapeOf wd = some ks ∧ ps.length = ks.length ∧ (∀ q ∈ ks.zip ps, part3 q.1 q.2 = true) ∧ (∀ l, usesOk c l wd ps) ∧ bodiesL ks ps = []
theorem lawL_S {c : Cx91} {d : PyData} (h : lawL c d) (B : Nat → PyData → Prop) (l : Nat) : lawS c B l d := by
  obtain ⟨wd, ps, ks, e, hk, hl, hp, hu, hb⟩ := h
  exact ⟨wd, ps, ks, e, hk, hl, hp, hu l, by rw [hb]; exact fun b z => by cases z⟩
theorem lawL_cnt {c : Cx91} {d : PyData} (h : lawL c d) (n : Nat) : cntS (cntB n) d = 1 := by
  obtain ⟨wd, ps, ks, rfl, hk, hl, hp, hu, hb⟩ := h
  rw [cntS_of hk, hb]
  rfl
/-- words whose use asks nothing -/
theorem uses_free {c : Cx91} {l : Nat} {wd : Str} {ps : List PyData} (h : wd ≠ "call" ∧ wd ≠ "fork" ∧ wd ≠ "write" ∧ wd ≠ "read" ∧ wd ≠ "break" ∧ wd ≠ "continue") : usesOk c l wd ps :=
  ⟨fun e => absurd e h.1, fun e => absurd e h.2.1, fun e => absurd e h.2.2.1, fun e => absurd e h.2.2.2.1, fun e => e.elim (fun e => absurd e h.2.2.2.2.1) fun e => absurd e h.2.2.2.2.2⟩
theorem p3_name {x : Str} (h : nameB x = true) : part3 "name" (.str x) = true := h
theorem p3_expr {d : PyData} (h : nestedB 3 d = true) : part3 "expression" d = true := h
theorem p3_jump {i : Int} (h : 1 ≤ i) : part3 "jump" (.int i) = true := decide_eq_true h
theorem p3_args {es : List PyData} (h1 : es.length ≤ 5) (h2 : ∀ e ∈ es, nestedB 3 e = true) : part3 "args" (.tuple es) = true := by
  show (decide (es.length ≤ 5) && es.all (nestedB 3)) = true
  rw [decide_eq_true h1, Bool.true_and, List.all_eq_true]
  exact h2
theorem lawL_pass (c : Cx91) : lawL c (.tuple [.str "pass"]) := ⟨"pass", [], [], rfl, by decide +kernel, rfl, fun q hq => (by cases hq), fun l => uses_free (by decide +kernel), rfl⟩
theorem lawL_1 {c : Cx91} {wd k : Str} {a : PyData} (hk : shapeOf wd = some [k]) (hb : k ≠ "body") (ha : part3 k a = true) (hu : ∀ l, usesOk c l wd [a]) : lawL c (.tuple [.str wd, a]) :=
  ⟨wd, [a], [k], rfl, hk, rfl, fun q hq => by rw [List.mem_singleton.mp hq]; exact ha, hu, bodies_none (by simpa using Ne.symm hb)⟩
theorem lawL_2 {c : Cx91} {wd k1 k2 : Str} {a b : PyData} (hk : shapeOf wd = some [k1, k2]) (hb1 : k1 ≠ "body") (hb2 : k2 ≠ "body") (ha : part3 k1 a = true) (hb : part3 k2 b = true) (hu : ∀ l, usesOk c l wd [a, b]) : lawL c (.tuple [.str wd, a, b]) :=
  ⟨wd, [a, b], [k1, k2], rfl, hk, rfl, fun q hq => by
    rcases List.mem_cons.mp hq with rfl | hq
    · exact ha
    rw [List.mem_singleton.mp hq]; exact hb, hu, bodies_none (by simp; exact ⟨Ne.symm hb1, Ne.symm hb2⟩)⟩
theorem lawL_3 {c : Cx91} {wd k1 k2 k3 : Str} {a b d : PyData} (hk : shapeOf wd = some [k1, k2, k3]) (hb1 : k1 ≠ "body") (hb2 : k2 ≠ "body") (hb3 : k3 ≠ "body") (ha : part3 k1 a = true) (hb : part3 k2 b = true) (hd : part3 k3 d = true) (hu : ∀ l, usesOk c l wd [a, b, d]) : lawL c (.tuple [.str wd, a, b, d]) :=
  ⟨wd, [a, b, d], [k1, k2, k3], rfl, hk, rfl, fun q hq => by
    rcases List.mem_cons.mp hq with rfl | hq
    · exact ha
    rcases List.mem_cons.mp hq with rfl | hq
    · exact hb
    rw [List.mem_singleton.mp hq]; exact hd, hu, bodies_none (by simp; exact ⟨Ne.symm hb1, Ne.symm hb2, Ne.symm hb3⟩)⟩
theorem lawL_4 {c : Cx91} {wd k1 k2 k3 k4 : Str} {a b d e : PyData} (hk : shapeOf wd = some [k1, k2, k3, k4]) (hb1 : k1 ≠ "body") (hb2 : k2 ≠ "body") (hb3 : k3 ≠ "body") (hb4 : k4 ≠ "body") (ha : part3 k1 a = true) (hb : part3 k2 b = true) (hd : part3 k3 d = true) (he : part3 k4 e = true) (hu : ∀ l, usesOk c l wd [a, b, d, e]) : lawL c (.tuple [.str wd, a, b, d, e]) :=
  ⟨wd, [a, b, d, e], [k1, k2, k3, k4], rfl, hk, rfl, fun q hq => by
    rcases List.mem_cons.mp hq with rfl | hq
    · exact ha
    rcases List.mem_cons.mp hq with rfl | hq
    · exact hb
    rcases List.mem_cons.mp hq with rfl | hq
    · exact hd
    rw [List.mem_singleton.mp hq]; exact he, hu, bodies_none (by simp; exact ⟨Ne.symm hb1, Ne.symm hb2, Ne.symm hb3, Ne.symm hb4⟩)⟩
end K91
set_option Elab.async false
set_option linter.all false
set_option maxRecDepth 100000
set_option maxHeartbeats 8000000
namespace K91
open PySem PySem.Spec PyProof.Rows L2 _root_.SX
local macro_rules | `(tactic| walk_at "wp") => `(tactic| try simp only [cxK, cxw, cxK', cxw', start1, start2, start3, start4, start5, tRet, tRetN, tAsg, gName, gTup, gCons, gNil, gSub, tDrop, tNext, tIfS, tIf, tVar, tC, tAndV, tOrV, tNotV, tAnd, tOr, tNot, tTest, tB, tCB, tCons, tNil, tOp, tUn, rI0, rI, rU, rEq, rNe, rIn, tChain, tFld, sFld, tSl, tPart, tNoPart, tTup, tLst, tCallR, tMethR, tMethO, tBM, tBM0, tM0, tM1, tDGet, tDIn, tDNotIn, tDNewK, tCmp, t2I, tIsN, tNotN, tYes, tLc_eq, tFor_eq, tLenSetN, iItems, iVals, iKeys, iRng1, tLock, tLockE, tCallKw, tMakeKw, tMethKw, StX.tMakeR, tDc_eq, tLc2_eq, sFldAug, rMulS, tListVals, LiI.tListItems, LiI.rItemsL, RZ.iZipA, iStr, iTup, iList, iEnum, iEnumT, tDGet1, tDGet2, tDisp, tPairs, wipe, List.map_cons, List.map_nil,
  List.length_cons, List.length_nil, Nat.reduceAdd, Nat.reduceSub, List.replicate_succ, List.replicate_zero, if_true, if_false, Bool.not_true, Bool.not_false, Bool.false_eq_true, reduceIte,
  List.set_cons_zero, List.set_cons_succ, List.getElem?_cons_zero, List.getElem?_cons_succ, Option.some.injEq, exists_eq_left', exists_eq_left, V.int.injEq, V.str.injEq, V.bl.injEq, V.ref.injEq, V.ty.injEq, List.cons.injEq, and_true, true_and, and_assoc, exists_and_left, List.nil_append, List.cons_append, List.append_nil])
local macro_rules | `(tactic| walk_at "st") => `(tactic| (refine sq ?_; walk_at "wp"))
section
variable {P : Program} {w : World} {K : PySem.W.Frag} {mg : Str → Option Value} {base : Heap}
/-- within a comprehension: what holds of the items so far, whatever changes -/
def LcX (D : Addr) (I : Nat → List V → Hp → Prop) (i : Nat) (H : Hp) : Prop := ∃ acc, H D = some (.lst acc) ∧ acc.length ≤ i ∧ I i acc H
theorem lcGoX {J : It} {n : Nat} {G : Hp → Prop} {Y : Nat → Hp → V → Hp → Prop} (wk : Walk J n G Y) {g : TG} {tt : TT} {te : TE} {vs : List Nat} {σ : L2.St} {H1 : Hp} {Q : VK} (I : Addr → Nat → List V → Hp → Prop)
    (h0 : ∀ D, H1 D = none → I D 0 [] (upd H1 D (.lst []))) (hG : ∀ D i acc H, I D i acc H → G H)
    (hs : ∀ D i x acc H H', H1 D = none → i < n → H D = some (.lst acc) → acc.length ≤ i → I D i acc H → Y i H x H' → g x (wipe σ vs) H' fun σ2 H2 => wipe σ2 vs = wipe σ vs ∧ tt σ2 H2 fun b H3 =>
      if b = true then te σ2 H3 fun y H4 => ∃ acc, H4 D = some (.lst acc) ∧ acc.length < sizeLine ∧ LcX D (I D) (i + 1) (upd H4 D (.lst (acc ++ [y]))) else LcX D (I D) (i + 1) H3)
    (hd : ∀ D acc H, H1 D = none → H D = some (.lst acc) → acc.length ≤ n → I D n acc H → Q (.ref D) H) : LcGo J g tt te vs σ H1 Q := fun D nD =>
  lc_it wk (LcX D (I D)) ⟨[], upd_same, Nat.le_refl _, h0 D nD⟩ (fun i H _ ⟨acc, _, _, z⟩ => hG D i acc H z) (fun i x H H' hi ⟨acc, e, l, r⟩ y => hs D i x acc H H' nD hi e l r y) fun H ⟨acc, e, l, r⟩ => hd D acc H nD e l r
theorem LcX.mk {D : Addr} {I : Nat → List V → Hp → Prop} {i : Nat} {H : Hp} {acc : List V} {y : V} (l : acc.length ≤ i) (h : I (i + 1) (acc ++ [y]) (upd H D (.lst (acc ++ [y])))) : LcX D I (i + 1) (upd H D (.lst (acc ++ [y]))) :=
  ⟨acc ++ [y], upd_same, by simp; omega, h⟩
def spDraw : Sp := fun vs H Q _ => ∃ s, ∃ n : Nat, vs = [.ref s, .int (n : Nat)] ∧ SrcAt H s ∧ 1 ≤ n ∧ n.log2 < 8000 ∧ ∀ H', ∀ d : Nat, SX s H H' → SrcAt H' s → d < n → Q (.int (d : Nat)) H'
theorem ok__law_draw (T : Top K mg w)  : FnR P w K mg base CX0 1 (He.ga K "_law_draw") spDraw := by
  obtain ⟨fd, F⟩ := T.def_ d__law_draw (List.mem_of_getElem? (i := 53) rfl)
  refine mkR F sc__law_draw (fun _ _ _ _ _ _ us hl => match us, hl with | [_, _], _ => rfl) (fun vs H Q E h => ?_) (fun cdv A outer s H vs Q E hr h => ?_)
  · obtain ⟨s, n, rfl, _⟩ := h; rfl
  obtain ⟨s, n, rfl, hs, hn, hb, q⟩ := h
  refine ⟨_, pss_cons (ps_if (pt_cmpR (op_gt) (pe_ix (r := rIxL K) ix_list (pv 0) pe_int (fun _ _ => rfl)) pe_int (nomark _)) (pss_cons (ps_asg (pe_callB call_divmodW (by rfl) (T.free "divmod" (by decide +kernel)) (by decide +kernel) (pa_cons (pe_ix (r := rIxL K) ix_list (pv 0) pe_int (fun _ _ => rfl)) (pa_cons (pv 1) pa_nil))) (pg_tup (n := 2) rfl (pgs_cons (pg_sub (pv 0) pe_int set_list) (pgs_cons (pg_name (i := 2) sc__law_draw.nd rfl (by first | exact Or.inl rfl | exact Or.inr rfl)) pgs_nil))))
    (pss_one (ps_ret (pv 2)))) pss_nil)
    (pss_cons (ps_asg (pe_op op_mod (pe_op op_add (pe_op op_mulW (pe_ix (r := rIxL K) ix_list (pv 0) pe_int (fun _ _ => rfl)) pe_int) pe_int) pe_int) (pg_sub (pv 0) pe_int set_list))
    (pss_one (ps_ret (pe_op op_mod (pe_op op_fdiv (pe_op op_mod (pe_op op_mulW (pe_ix (r := rIxL K) ix_list (pv 0) pe_int (fun _ _ => rfl)) (pe_ix (r := rIxL K) ix_list (pv 0) pe_int (fun _ _ => rfl))) pe_int) pe_int) (pv 1))))), ?_⟩
  obtain ⟨x, y, es, hx, hy, hy2⟩ := hs
  have n0 : (0 : Int) < (n : Int) := by omega
  refine sq ?_
  walk_at "wp"
  refine ixL_at 0 (.of es) rfl ⟨x, rfl, ite2 (fun c => ?_) (fun c => ?_)⟩
  · refine sq ?_
    walk_at "wp"
    refine ixL_at 0 (.of es) rfl ⟨x, rfl, divp_small n0 (by rw [Int.natAbs_natCast]; exact hb), fun p np => ⟨_, .inl (.inl upd_same), rfl, _, _, rfl, ?_⟩⟩
    have m1 := Int.emod_nonneg x (show (n : Int) ≠ 0 by omega)
    have m2 := Int.emod_lt_of_pos x n0
    have m3 := Int.ediv_nonneg hx (Int.le_of_lt n0)
    obtain ⟨d, ed⟩ := Int.eq_ofNat_of_zero_le m1
    rw [ed]
    have s1 := same_new np (.tup [V.int (x / (n : Int)), V.int (d : Nat)])
    have e1 := s1 _ _ es
    refine ⟨s, _, 0, 0, rfl, rfl, e1, rfl, _, _, rfl, rfl, ?_⟩
    exact q _ d ((SX.of s1).trans (.putL e1 _)) ⟨_, y, upd_same, m3, hy, hy2⟩ (by omega)
  · refine sq ?_
    walk_at "wp"
    have y0 := Int.emod_nonneg (y * 48017 + 10151) (show (2147483579 : Int) ≠ 0 by decide)
    have y1 := Int.emod_lt_of_pos (y * 48017 + 10151) (show (0 : Int) < 2147483579 by decide)
    refine ixL_at 1 (.of es) rfl ⟨y, rfl, wide_mul (a := 33) (b := 33) (by omega) (by decide) (by decide) (by decide) (by decide), by decide, s, _, 1, 1, rfl, rfl, es, rfl, ?_⟩
    generalize (y * 48017 + 10151) % 2147483579 = z at y0 y1 ⊢
    have ez : (upd H s (.lst (([V.int x, V.int y] : List V).set 1 (V.int z)))) s = some (.lst [.int x, .int z]) := upd_same
    have X1 : SX s H (upd H s (.lst (([V.int x, V.int y] : List V).set 1 (V.int z)))) := .putL es _
    generalize upd H s (.lst (([V.int x, V.int y] : List V).set 1 (V.int z))) = H1 at ez X1 ⊢
    refine ixL_at 1 (.of ez) rfl (ixL_at 1 (.of ez) rfl ⟨z, rfl, z, rfl, wide_mul (a := 33) (b := 33) (by omega) (by omega) (by decide) (by decide) (by decide), by decide, ⟨by decide, by decide⟩, n0, ?_⟩)
    have m1 := Int.emod_nonneg (z * z % 2147483543 / 11) (show (n : Int) ≠ 0 by omega)
    have m2 := Int.emod_lt_of_pos (z * z % 2147483543 / 11) n0
    obtain ⟨d, ed⟩ := Int.eq_ofNat_of_zero_le m1
    rw [ed]
    exact q _ d X1 ⟨x, z, ez, hx, y0, by omega⟩ (by omega)
def spChoose (K : PySem.W.Frag) : Sp := fun vs H Q _ => ∃ s l xs, vs = [.ref s, .ref l] ∧ SrcAt H s ∧ H l = some (.lst xs) ∧ l ≠ s ∧ 1 ≤ xs.length ∧ xs.length ≤ 1000 ∧ ∀ H', ∀ i : Nat, ∀ x, SX s H H' → SrcAt H' s → xs[i]? = some x → Q x H'
theorem ok__law_choose (T : Top K mg w)  : FnR P w K mg base CX0 2 (He.ga K "_law_choose") (spChoose K) := by
  obtain ⟨fd, F⟩ := T.def_ d__law_choose (List.mem_of_getElem? (i := 54) rfl)
  refine mkR F sc__law_choose (fun _ _ _ _ _ _ us hl => match us, hl with | [_, _], _ => rfl) (fun vs H Q E h => ?_) (fun cdv A outer s H vs Q E hr h => ?_)
  · obtain ⟨s, l, xs, rfl, _⟩ := h; rfl
  obtain ⟨s, l, xs, rfl, hs, hl, ne, h1, h2, q⟩ := h
  have G__law_draw := ok__law_draw (P := P) (w := w) (base := base) T
  refine ⟨_, pss_one (ps_ret (pe_ix (r := rIxL K) ix_list (pv 1) (pcall G__law_draw hr (T.glo "_law_draw" (by decide +kernel)) (pa_cons (pv 0) (pa_cons (pe_callB (r := fun xs H Q => ∃ x n, xs = [x] ∧ LenV K x H n ∧ Q (.int n) H) call_len (by rfl) (T.free "len" (by decide +kernel)) (by decide +kernel) (pa_cons (pv 1) pa_nil)) pa_nil))) (fun _ _ => rfl))), ?_⟩
  have zl := line_big
  walk_at "wp"
  refine ⟨xs.length, .inl ⟨_, .of hl, rfl⟩, s, xs.length, rfl, hs, h1, ?_, fun H1 d X1 hs1 hd => ?_⟩
  · exact Nat.lt_of_le_of_lt (Nat.log2_le_self _) (by omega)
  obtain ⟨v, hv⟩ : ∃ v, xs[d]? = some v := ⟨xs[d], List.getElem?_eq_getElem hd⟩
  exact ixL_at d (.of (X1.x _ _ ne hl)) hv (q H1 d v X1 hs1 hv)
end
end K91
set_option Elab.async false
set_option linter.all false
set_option maxRecDepth 100000
set_option maxHeartbeats 8000000
namespace K91
open PySem PySem.Spec PyProof.Rows L2 _root_.SX
local macro_rules | `(tactic| walk_at "wp") => `(tactic| try simp only [cxK, cxw, cxK', cxw', start1, start2, start3, start4, start5, tRet, tRetN, tAsg, gName, gTup, gCons, gNil, gSub, tDrop, tNext, tIfS, tIf, tVar, tC, tAndV, tOrV, tNotV, tAnd, tOr, tNot, tTest, tB, tCB, tCons, tNil, tOp, tUn, rI0, rI, rU, rEq, rNe, rIn, tChain, tFld, sFld, tSl, tPart, tNoPart, tTup, tLst, tCallR, tMethR, tMethO, tBM, tBM0, tM0, tM1, tDGet, tDIn, tDNotIn, tDNewK, tCmp, t2I, tIsN, tNotN, tYes, tLc_eq, tFor_eq, tLenSetN, iItems, iVals, iKeys, iRng1, tLock, tLockE, tCallKw, tMakeKw, tMethKw, StX.tMakeR, tDc_eq, tLc2_eq, sFldAug, rMulS, tListVals, LiI.tListItems, LiI.rItemsL, RZ.iZipA, iStr, iTup, iList, iEnum, iEnumT, tDGet1, tDGet2, tDisp, tPairs, wipe, List.map_cons, List.map_nil,
  List.length_cons, List.length_nil, Nat.reduceAdd, Nat.reduceSub, List.replicate_succ, List.replicate_zero, if_true, if_false, Bool.not_true, Bool.not_false, Bool.false_eq_true, reduceIte,
  List.set_cons_zero, List.set_cons_succ, List.getElem?_cons_zero, List.getElem?_cons_succ, Option.some.injEq, exists_eq_left', exists_eq_left, V.int.injEq, V.str.injEq, V.bl.injEq, V.ref.injEq, V.ty.injEq, List.cons.injEq, and_true, true_and, and_assoc, exists_and_left, List.nil_append, List.cons_append, List.append_nil])
local macro_rules | `(tactic| walk_at "st") => `(tactic| (refine sq ?_; walk_at "wp"))
section
variable {P : Program} {w : World} {K : PySem.W.Frag} {mg : Str → Option Value} {base : Heap}
theorem or_if {b1 b2 : Bool} {R S : Prop} (h : b1 = true ∨ b2 = true → R) (g : b1 = false → b2 = false → S) : if b1 = true then R else if b2 = true then R else S := by
  cases b1 with
  | true => rw [if_pos rfl]; exact h (.inl rfl)
  | false =>
    rw [if_neg Bool.false_ne_true]
    cases b2 with
    | true => rw [if_pos rfl]; exact h (.inr rfl)
    | false => rw [if_neg Bool.false_ne_true]; exact g rfl rfl
theorem pow60 : (10 : Int) ^ Int.toNat 60 = limit := by decide +kernel
theorem nest_int {n : Nat} {i : Int} (h1 : -limit ≤ i) (h2 : i ≤ limit) : nestedB (n + 1) (.int i) = true := by
  show (isValD (.int i) || _ || _) = true
  have : isValD (.int i) = true := by show (decide (-limit ≤ i) && decide (i ≤ limit)) = true; rw [decide_eq_true h1, decide_eq_true h2]; rfl
  rw [this]; rfl
theorem nest_op {n : Nat} {o : Str} {l r : PyData} (ho : ops.contains o = true) (hn : n ≠ 0) (h1 : nestedB n l = true) (h2 : nestedB n r = true) : nestedB (n + 1) (.tuple [.str o, l, r]) = true := by
  show (isValD _ || isNameD _ || (n != 0 && ops.contains o && nestedB n l && nestedB n r)) = true
  have hj : (n != 0) = true := by simp; omega
  rw [hj, ho, h1, h2]
  simp
theorem dt_strs {H : Hp} : ∀ {ns : List Str}, (∀ x ∈ ns, nameB x = true) → DtAll K H (ns.map V.str) (ns.map .str)
  | [], _ => .nil
  | a :: r, h => .cons (.str a (by have := name_len (h a List.mem_cons_self); omega)) (dt_strs fun x hx => h x (List.mem_cons_of_mem _ hx))
theorem strs_shaped {ns : List Str} (h : ∀ x ∈ ns, nameB x = true) : SeqAt.shaped (.list (ns.map .str)) = true := by
  unfold SeqAt.shaped
  have h2 : ∀ d ∈ ns.map PyData.str, shP 0 d := fun d hd => by
    obtain ⟨x, hx, rfl⟩ := List.mem_map.mp hd
    exact sh_name _ (h x hx)
  rw [Bool.and_eq_true]
  refine ⟨by simp only [PyData.canLay0]; exact layAll fun d hd => (h2 d hd).1, decide_eq_true ?_⟩
  simp only [PyData.depth]
  have := depAll (m := 0) fun d hd => (h2 d hd).2
  omega
def spValue : Sp := fun vs H Q _ => ∃ s, vs = [.ref s] ∧ SrcAt H s ∧ ∀ H', ∀ i : Int, SX s H H' → SrcAt H' s → -limit ≤ i → i ≤ limit → Q (.int i) H'
theorem ok__law_value (T : Top K mg w)  : FnR P w K mg base CX0 2 (He.ga K "_law_value") spValue := by
  obtain ⟨fd, F⟩ := T.def_ d__law_value (List.mem_of_getElem? (i := 58) rfl)
  refine mkR F sc__law_value (fun _ _ _ _ _ _ us hl => match us, hl with | [_], _ => rfl) (fun vs H Q E h => ?_) (fun cdv A outer s H vs Q E hr h => ?_)
  · obtain ⟨s, rfl, _⟩ := h; rfl
  obtain ⟨s, rfl, hs, q⟩ := h
  have G__law_draw := ok__law_draw (P := P) (w := w) (base := base) T
  refine ⟨_, pss_cons (ps_set (i := 1) sc__law_value.nd rfl (by first | exact Or.inl rfl | exact Or.inr rfl) (pcall G__law_draw hr (T.glo "_law_draw" (by decide +kernel)) (pa_cons (pv 0) (pa_cons pe_int pa_nil))))
    (pss_cons (ps_set (i := 2) sc__law_value.nd rfl (by first | exact Or.inl rfl | exact Or.inr rfl) (pcall G__law_draw hr (T.glo "_law_draw" (by decide +kernel)) (pa_cons (pv 0) (pa_cons (pe_ix (r := rIxL K) ix_list (pe_lst (pa_cons pe_int (pa_cons pe_int (pa_cons (pe_op op_add (pe_op op_pow pe_int pe_int) pe_int) (pa_cons pe_int pa_nil))))) (pv 1) (fun _ _ => rfl)) pa_nil))))
    (pss_cutK (ps_if (pt_cmpR (op_eq) (pv 1) pe_int (nomark _)) (pss_one (ps_set (i := 2) sc__law_value.nd rfl (by first | exact Or.inl rfl | exact Or.inr rfl) (pe_op op_sub (pe_op op_pow pe_int pe_int) (pv 2)))) pss_nil)
    (pss_one (ps_ret (pe_ifExp (pt_cmpR (op_eq) (pcall G__law_draw hr (T.glo "_law_draw" (by decide +kernel)) (pa_cons (pv 0) (pa_cons pe_int pa_nil))) pe_int (nomark _)) (pv 2) (pe_op op_sub pe_int (pv 2))))))), ?_⟩
  have zl := line_big
  refine sq ?_
  walk_at "wp"
  refine ⟨s, 4, rfl, hs, by decide, by decide, fun H1 d1 X1 hs1 hd1 => ?_⟩
  refine sq ?_
  walk_at "wp"
  refine ⟨⟨by decide, by decide, by decide⟩, by omega, fun p np => ?_⟩
  have hN : ∃ N : Nat, ([V.int 4, V.int 100, V.int (10 ^ Int.toNat 60 + 1), V.int 3] : List V)[d1]? = some (V.int (N : Nat)) ∧ 1 ≤ N ∧ N.log2 < 8000 ∧ (N : Int) ≤ limit + 1 := by
    have h4 : d1 = 0 ∨ d1 = 1 ∨ d1 = 2 ∨ d1 = 3 := by omega
    rcases h4 with rfl | rfl | rfl | rfl
    · exact ⟨4, rfl, by decide, by decide, by decide⟩
    · exact ⟨100, rfl, by decide, by decide, by decide⟩
    · exact ⟨10 ^ 60 + 1, by decide +kernel, by decide, by decide +kernel, by decide +kernel⟩
    · exact ⟨3, rfl, by decide, by decide, by decide⟩
  obtain ⟨N, eN, N1, N2, N3⟩ := hN
  have s2 := same_new np (.lst [V.int 4, V.int 100, V.int (10 ^ Int.toNat 60 + 1), V.int 3])
  refine ixL_at d1 (.of upd_same) eN ⟨s, N, rfl, hs1.same s2, N1, N2, fun H2 d2 X2 hs2 hd2 => ?_⟩
  have X12 := (X1.trans (.of s2)).trans X2
  refine cutI (fun σ H' => H' = H2 ∧ ∃ z : Int, σ = [some (V.ref s), some (V.int (d1 : Nat)), some (V.int z)] ∧ 0 ≤ z ∧ z ≤ limit) ?_ ?_
  · walk_at "wp"
    refine ⟨rfl, ite2 (fun _ => ⟨⟨by decide, by decide, by decide⟩, ?_, ?_⟩) fun _ => ⟨by omega, by omega⟩⟩
    · rw [pow60]; omega
    · rw [pow60]; omega
  · rintro σ H' ⟨eH, z, rfl, z0, z1⟩
    subst eH
    walk_at "wp"
    refine ⟨s, 2, rfl, hs2, by decide, by decide, fun H3 d3 X3 hs3 hd3 => ⟨rfl, ite2 (fun _ => ?_) fun _ => ?_⟩⟩
    · exact q H3 z (X12.trans X3) hs3 (by omega) z1
    · exact q H3 _ (X12.trans X3) hs3 (by omega) (by omega)
/-- an expression of at most n levels -/
def spExpr (K : PySem.W.Frag) (n : Nat) : Sp := fun vs H Q _ => ∃ s l, ∃ ns : List Str, vs = [.ref s, .ref l, .int (n : Nat)] ∧ SrcAt H s ∧ H l = some (.lst (ns.map V.str)) ∧ 1 ≤ n ∧ 1 ≤ ns.length ∧ ns.length ≤ 100 ∧ (∀ x ∈ ns, nameB x = true) ∧ ∀ H' v d, SX s H H' → SrcAt H' s → Dt K H' v d → nestedB n d = true → Q v H'
theorem st__law_expression (T : Top K mg w) {n : Nat} (G__law_expression : FnR P w K mg base CX0 (n + 3) (He.ga K "_law_expression") (spExpr K n)) : FnR P w K mg base CX0 (n + 4) (He.ga K "_law_expression") (spExpr K (n + 1)) := by
  obtain ⟨fd, F⟩ := T.def_ d__law_expression (List.mem_of_getElem? (i := 59) rfl)
  refine mkR F sc__law_expression (fun _ _ _ _ _ _ us hl => match us, hl with | [_, _, _], _ => rfl) (fun vs H Q E h => ?_) (fun cdv A outer s H vs Q E hr h => ?_)
  · obtain ⟨s, l, ns, rfl, _⟩ := h; rfl
  obtain ⟨s, l, ns, rfl, hs, hl, _, hne, hz, hn, q⟩ := h
  have G__law_draw := ok__law_draw (P := P) (w := w) (base := base) T
  have G__law_choose := ok__law_choose (P := P) (w := w) (base := base) T
  have G__law_value := ok__law_value (P := P) (w := w) (base := base) T
  refine ⟨_, pss_cons (ps_set (i := 3) sc__law_expression.nd rfl (by first | exact Or.inl rfl | exact Or.inr rfl) (pcall G__law_draw hr (T.glo "_law_draw" (by decide +kernel)) (pa_cons (pv 0) (pa_cons pe_int pa_nil))))
    (pss_cutK (ps_if (PW.pt (pw_or (pt_cmpR (op_eq) (pv 3) pe_int (nomark _)) (pw_or1 (PW.pt (pw_and (pt_cmpR (op_lt) (pv 3) pe_int (nomark _)) (pw_and1 (pt_cmpR (op_eqD hr.units) (pv 1) (pe_lst pa_nil) (nomark _)))))))) (pss_one (ps_ret (pcall G__law_value hr (T.glo "_law_value" (by decide +kernel)) (pa_cons (pv 0) pa_nil)))) pss_nil)
    (pss_cons (ps_if (PW.pt (pw_or (pt_cmpR (op_lt) (pv 3) pe_int (nomark _)) (pw_or1 (pt_cmpR (op_lt) (pv 2) pe_int (nomark _))))) (pss_one (ps_ret (pe_ifExp (pt_cmpR (op_neD hr.units) (pv 1) (pe_lst pa_nil) (nomark _)) (pcall G__law_choose hr (T.glo "_law_choose" (by decide +kernel)) (pa_cons (pv 0) (pa_cons (pv 1) pa_nil))) (pcall G__law_value hr (T.glo "_law_value" (by decide +kernel)) (pa_cons (pv 0) pa_nil))))) pss_nil)
    (pss_cons (ps_set (i := 4) sc__law_expression.nd rfl (by first | exact Or.inl rfl | exact Or.inr rfl) (pe_ix (r := rIxL K) ix_list (pe_lst (pa_cons pe_str (pa_cons pe_str (pa_cons pe_str (pa_cons pe_str (pa_cons pe_str (pa_cons pe_str (pa_cons pe_str pa_nil)))))))) (pcall G__law_draw hr (T.glo "_law_draw" (by decide +kernel)) (pa_cons (pv 0) (pa_cons pe_int pa_nil))) (fun _ _ => rfl)))
    (pss_cons (ps_set (i := 5) sc__law_expression.nd rfl (by first | exact Or.inl rfl | exact Or.inr rfl) (pcall G__law_expression hr (T.glo "_law_expression" (by decide +kernel)) (pa_cons (pv 0) (pa_cons (pv 1) (pa_cons (pe_op op_sub (pv 2) pe_int) pa_nil)))))
    (pss_one (ps_ret (pe_tup (pa_cons (pv 4) (pa_cons (pv 5) (pa_cons (pcall G__law_expression hr (T.glo "_law_expression" (by decide +kernel)) (pa_cons (pv 0) (pa_cons (pv 1) (pa_cons (pe_op op_sub (pv 2) pe_int) pa_nil)))) pa_nil)))))))))), ?_⟩
  have zl := line_big
  have nls := strs_ne_src hl hs
  refine sq ?_
  walk_at "wp"
  refine ⟨s, 5, rfl, hs, by decide, by decide, fun H1 d1 X1 hs1 hd1 => ?_⟩
  have hl1 := X1.x _ _ nls hl
  have hnil : ∀ H', SX s H H' → ∀ p', H' p' = none → ∀ Q' : VK, Q' (.bl false) (upd H' p' (.lst [])) → rEqD K (V.ref l) (V.ref p') (upd H' p' (.lst [])) Q' := fun H' X p' np' Q' hq' => by
    refine ⟨.list (ns.map .str), .list [], .lst (.of (same_new np' _ _ _ (X.x _ _ nls hl))) (dt_strs hn).dp, .lst (.of upd_same) .nil, strs_shaped hn, by decide +kernel, ?_⟩
    rw [eqv_nil, show (ns.map PyData.str).isEmpty = false by cases ns with | nil => simp at hne | cons a r => rfl]
    exact hq'
  have hnil2 : ∀ H', SX s H H' → ∀ p', H' p' = none → ∀ Q' : VK, Q' (.bl true) (upd H' p' (.lst [])) → rNeD K (V.ref l) (V.ref p') (upd H' p' (.lst [])) Q' := fun H' X p' np' Q' hq' => by
    refine ⟨.list (ns.map .str), .list [], .lst (.of (same_new np' _ _ _ (X.x _ _ nls hl))) (dt_strs hn).dp, .lst (.of upd_same) .nil, strs_shaped hn, by decide +kernel, ?_⟩
    rw [eqv_nil, show (ns.map PyData.str).isEmpty = false by cases ns with | nil => simp at hne | cons a r => rfl]
    exact hq'
  refine cutI (fun σ H' => σ = [some (V.ref s), some (V.ref l), some (V.int ((n + 1 : Nat) : Int)), some (V.int (d1 : Nat)), none, none] ∧ SX s H H' ∧ SrcAt H' s) ?_ ?_
  · walk_at "wp"
    refine ⟨rfl, ite2 (fun _ => ?_) fun _ => ?_⟩
    · exact ⟨s, rfl, hs1, fun H2 i X2 hs2 h1 h2 => q H2 _ _ (X1.trans X2) hs2 (.int i) (nest_int h1 h2)⟩
    refine ite2 (fun _ => ⟨Nat.zero_le _, fun p np => hnil H1 X1 p np _ ⟨_, rfl, iteFb rfl ⟨X1.trans (.of (same_new np _)), hs1.same (same_new np _)⟩⟩⟩) fun _ => ⟨X1, hs1⟩
  · rintro σ H2 ⟨rfl, X2, hs2⟩
    have hl2 := X2.x _ _ nls hl
    refine sq ?_
    walk_at "wp"
    refine or_if (fun _ => ⟨Nat.zero_le _, fun p np => hnil2 H2 X2 p np _ ⟨_, rfl, iteTb rfl ?_⟩⟩) fun c1 c2 => ?_
    · have s3 := same_new np (.lst [])
      refine ⟨s, l, _, rfl, hs2.same s3, s3 _ _ hl2, nls, by rw [List.length_map]; exact hne, by rw [List.length_map]; omega, fun H3 i x X3 hs3 hx => ?_⟩
      rw [List.getElem?_map] at hx
      obtain ⟨y, ey, rfl⟩ := Option.map_eq_some_iff.mp hx
      have hy := hn y (List.mem_of_getElem? ey)
      exact q H3 _ (.str y) ((X2.trans (.of s3)).trans X3) hs3 (.str y (by have := name_len hy; omega)) (name_nested n hy)
    have n0 : n ≠ 0 := by
      have := of_decide_eq_false c2
      omega
    refine sq ?_
    walk_at "wp"
    refine ⟨by omega, fun p np => ?_⟩
    have s3 := same_new np (.lst [V.str "add", V.str "sub", V.str "mul", V.str "div", V.str "mod", V.str "less", V.str "same"])
    refine ⟨s, 7, rfl, hs2.same s3, by decide, by decide, fun H3 d3 X3 hs3 hd3 => ?_⟩
    have nps : p ≠ s := by rintro rfl; obtain ⟨_, _, e, _⟩ := hs2; rw [np] at e; cases e
    have hO : ∃ o : Str, ([V.str "add", V.str "sub", V.str "mul", V.str "div", V.str "mod", V.str "less", V.str "same"] : List V)[d3]? = some (V.str o) ∧ ops.contains o = true := by
      have h7 : d3 = 0 ∨ d3 = 1 ∨ d3 = 2 ∨ d3 = 3 ∨ d3 = 4 ∨ d3 = 5 ∨ d3 = 6 := by omega
      rcases h7 with rfl | rfl | rfl | rfl | rfl | rfl | rfl
      · exact ⟨"add", rfl, by decide +kernel⟩
      · exact ⟨"sub", rfl, by decide +kernel⟩
      · exact ⟨"mul", rfl, by decide +kernel⟩
      · exact ⟨"div", rfl, by decide +kernel⟩
      · exact ⟨"mod", rfl, by decide +kernel⟩
      · exact ⟨"less", rfl, by decide +kernel⟩
      · exact ⟨"same", rfl, by decide +kernel⟩
    obtain ⟨o, eo, ho⟩ := hO
    have X23 := (X2.trans (.of s3)).trans X3
    have hl3 := X3.x _ _ nls (s3 _ _ hl2)
    have en : (((n + 1 : Nat) : Int) - 1) = ((n : Nat) : Int) := by omega
    refine ixL_at d3 (.of (X3.x _ _ nps upd_same)) eo ?_
    refine sq ?_
    walk_at "wp"
    rw [en]
    refine ⟨s, l, ns, rfl, hs3, hl3, by omega, hne, hz, hn, fun H4 v4 d4 X4 hs4 g4 h4 => ?_⟩
    have hl4 := X4.x _ _ nls hl3
    walk_at "wp"
    refine ⟨s, l, ns, rfl, hs4, hl4, by omega, hne, hz, hn, fun H5 v5 d5 X5 hs5 g5 h5 => ⟨by omega, fun t nt => ?_⟩⟩
    have s6 := same_new nt (.tup [.str o, v4, v5])
    exact q _ _ _ (((X23.trans X4).trans X5).trans (.of s6)) (hs5.same s6) (.tup (.inl (.inl upd_same)) (.cons (.str o (by have := op_len ho; omega)) (.cons (g4.keep (X5.t.trans (tups_of s6))) (.cons (g5.keep (tups_of s6)) .nil)))) (nest_op ho n0 h4 h5)
theorem ok__law_expression (T : Top K mg w) : ∀ n : Nat, FnR P w K mg base CX0 (n + 3) (He.ga K "_law_expression") (spExpr K n)
  | 0 => fun A outer s H us vs Q E hr e0 r h => by
    obtain ⟨_, _, _, _, _, _, h0, _⟩ := h
    exact absurd h0 (by omega)
  | n + 1 => st__law_expression T (ok__law_expression T n)
end
end K91
set_option Elab.async false
set_option linter.all false
set_option maxRecDepth 100000
set_option maxHeartbeats 8000000
namespace K91
open PySem PySem.Spec PyProof.Rows L2
local macro_rules | `(tactic| walk_at "wp") => `(tactic| try simp only [cxK, cxw, cxK', cxw', start1, start2, start3, start4, start5, tRet, tRetN, tAsg, gName, gTup, gCons, gNil, gSub, tDrop, tNext, tIfS, tIf, tVar, tC, tAndV, tOrV, tNotV, tAnd, tOr, tNot, tTest, tB, tCB, tCons, tNil, tOp, tUn, rI0, rI, rU, rEq, rNe, rIn, tChain, tFld, sFld, tSl, tPart, tNoPart, tTup, tLst, tCallR, tMethR, tMethO, tBM, tBM0, tM0, tM1, tDGet, tDIn, tDNotIn, tDNewK, tCmp, t2I, tIsN, tNotN, tYes, tLc_eq, tFor_eq, tLenSetN, iItems, iVals, iKeys, iRng1, tLock, tLockE, tCallKw, tMakeKw, tMethKw, StX.tMakeR, tDc_eq, tLc2_eq, sFldAug, rMulS, tListVals, LiI.tListItems, LiI.rItemsL, RZ.iZipA, iStr, iTup, iList, iEnum, iEnumT, tDGet1, tDGet2, tDisp, tPairs, wipe, List.map_cons, List.map_nil,
  List.length_cons, List.length_nil, Nat.reduceAdd, Nat.reduceSub, List.replicate_succ, List.replicate_zero, if_true, if_false, Bool.not_true, Bool.not_false, Bool.false_eq_true, reduceIte,
  List.set_cons_zero, List.set_cons_succ, List.getElem?_cons_zero, List.getElem?_cons_succ, Option.some.injEq, exists_eq_left', exists_eq_left, V.int.injEq, V.str.injEq, V.bl.injEq, V.ref.injEq, V.ty.injEq, List.cons.injEq, and_true, true_and, and_assoc, exists_and_left, List.nil_append, List.cons_append, List.append_nil])
local macro_rules | `(tactic| walk_at "st") => `(tactic| (refine sq ?_; walk_at "wp"))
section
variable {P : Program} {w : World} {K : PySem.W.Frag} {mg : Str → Option Value} {base : Heap}
theorem st__law_term_text (T : Top K mg w) {n : Nat} (G__law_term_text : FnR P w K mg base CX0 (n + 1) (He.ga K "_law_term_text") (spExprT K n)) : FnR P w K mg base CX0 (n + 1 + 1) (He.ga K "_law_term_text") (spExprT K (n + 1)) := by
  obtain ⟨fd, F⟩ := T.def_ d__law_term_text (List.mem_of_getElem? (i := 68) rfl)
  refine mkR F sc__law_term_text (fun _ _ _ _ _ _ us hl => match us, hl with | [_], _ => rfl) (fun vs H Q E h => ?_) (fun cdv A outer s H vs Q E hr h => ?_)
  · obtain ⟨v, d, rfl, _⟩ := h; rfl
  obtain ⟨v, d, rfl, hd, ht, hn, q⟩ := h
  refine ⟨_, pss_cons (ps_if (pt_val (pe_callB (r := rIsi K) call_isi (by rfl) (T.free "isinstance" (by decide +kernel)) (by decide +kernel) (pa_cons (pv 0) (pa_cons (pe_bltn (v := .ty "tuple") (u := .type "tuple") (by rfl) (T.free "tuple" (by decide +kernel)) (by decide +kernel) rfl) pa_nil)))) (pss_one (ps_ret (pe_op op_add_str (pe_op op_add_str (pe_op op_add_str (pe_op op_add_str (pe_op op_add_str (pe_op op_add_str pe_str (pe_ix (r := rIxT K) ix_tup (pv 0) pe_int (fun _ _ => rfl))) pe_str) (pcall G__law_term_text hr (T.glo "_law_term_text" (by decide +kernel)) (pa_cons (pe_ix (r := rIxT K) ix_tup (pv 0) pe_int (fun _ _ => rfl)) pa_nil))) pe_str) (pcall G__law_term_text hr (T.glo "_law_term_text" (by decide +kernel)) (pa_cons (pe_ix (r := rIxT K) ix_tup (pv 0) pe_int (fun _ _ => rfl)) pa_nil))) pe_str))) pss_nil)
    (pss_one (ps_ret (pe_ifExp (pt_val (pe_callB (r := rIsi K) call_isi (by rfl) (T.free "isinstance" (by decide +kernel)) (by decide +kernel) (pa_cons (pv 0) (pa_cons (pe_bltn (v := .ty "str") (u := .type "str") (by rfl) (T.free "str" (by decide +kernel)) (by decide +kernel) rfl) pa_nil)))) (pv 0) (pe_callTy call_strU (by rfl) (T.free "str" (by decide +kernel)) (by decide +kernel) (pa_cons (pv 0) pa_nil))))), ?_⟩
  have zl := line_big
  walk_at "st"
  refine isi_ask hd.dp (kit_tuple _) ⟨_, rfl, ?_⟩
  rw [isi_tupleE]
  have hp2 : 2 ^ (n + 1) ≤ 2 ^ 6 := Nat.pow_le_pow_right (by decide) hn
  rcases txB_kind ht with ⟨i, rfl, hi⟩ | ⟨x, rfl, hx⟩ | ⟨ds, rfl⟩
  · obtain rfl := hd.intI
    have q := q H (.refl H)
    rw [exprT_int] at q
    exact iteFb rfl (isi_ask hd.dp (kit_str _) ⟨_, rfl, iteFb (by rw [isi_strE]; rfl) (.inr ⟨i, rfl, int_log i hi, q⟩)⟩)
  · have hd' := hd
    obtain ⟨rfl, _⟩ := hd.strI
    have q := q H (.refl H)
    rw [exprT_str] at q
    exact iteFb rfl (isi_ask hd'.dp (kit_str _) ⟨_, rfl, iteTb (by rw [isi_strE]; rfl) q⟩)
  obtain ⟨m, o, l, r, e, rfl, h1, h2, h3⟩ := txB_tup ht
  cases e
  obtain ⟨a, xs, rfl, hT, hX⟩ := hd.tupI
  obtain ⟨v0, _, rfl, g0, hX⟩ := hX.consI
  obtain ⟨v1, _, rfl, g1, hX⟩ := hX.consI
  obtain ⟨v2, _, rfl, g2, hX⟩ := hX.consI
  obtain rfl := hX.nilI
  obtain ⟨rfl, z0⟩ := g0.strI
  have e2 : (("(" : String) : Str).length = 1 := rfl
  have e3 : ((" " : String) : Str).length = 1 := rfl
  have e4 : ((")" : String) : Str).length = 1 := rfl
  have il := exprT_len n l h2
  have ir := exprT_len n r h3
  rw [Nat.pow_succ] at hp2
  have z : ∀ k : Nat, k ≤ 1000000 → k ≤ sizeLine := fun k h => by omega
  have eQ : exprT (n + 1) (.tuple [.str o, l, r]) = "(" ++ o ++ " " ++ exprT n l ++ " " ++ exprT n r ++ ")" := by
    show Str.empty ++ "(" ++ o ++ " " ++ exprT n l ++ " " ++ exprT n r ++ ")" = _
    rw [Str.empty_append]
  rw [eQ] at q
  refine iteTb rfl (ixT_at 0 hT rfl ⟨o, rfl, z _ (by omega), z _ (by simp only [Str.length_append, e2, e3, e4]; omega), ixT_at 1 hT rfl ⟨v1, l, rfl, g1, h2, by omega, fun H1 s1 => ⟨_, rfl, z _ (by simp only [Str.length_append, e2, e3, e4]; omega), z _ (by simp only [Str.length_append, e2, e3, e4]; omega), ixT_at 2 ((tups_of s1).sqT hT) rfl ⟨v2, r, rfl, g2.keep (tups_of s1), h3, by omega, fun H2 s2 => ⟨_, rfl, z _ (by simp only [Str.length_append, e2, e3, e4]; omega), z _ (by simp only [Str.length_append, e2, e3, e4]; omega), q H2 (s1.trans s2)⟩⟩⟩⟩⟩)
theorem z__law_term_text (T : Top K mg w) (G__law_term_text : FnR P w K mg base CX0 0 (He.ga K "_law_term_text") (fun _ _ _ _ => False)) : FnR P w K mg base CX0 1 (He.ga K "_law_term_text") (spExprT K 0) := by
  obtain ⟨fd, F⟩ := T.def_ d__law_term_text (List.mem_of_getElem? (i := 68) rfl)
  refine mkR F sc__law_term_text (fun _ _ _ _ _ _ us hl => match us, hl with | [_], _ => rfl) (fun vs H Q E h => ?_) (fun cdv A outer s H vs Q E hr h => ?_)
  · obtain ⟨v, d, rfl, _⟩ := h; rfl
  obtain ⟨v, d, rfl, hd, ht, hn, q⟩ := h
  refine ⟨_, pss_cons (ps_if (pt_val (pe_callB (r := rIsi K) call_isi (by rfl) (T.free "isinstance" (by decide +kernel)) (by decide +kernel) (pa_cons (pv 0) (pa_cons (pe_bltn (v := .ty "tuple") (u := .type "tuple") (by rfl) (T.free "tuple" (by decide +kernel)) (by decide +kernel) rfl) pa_nil)))) (pss_one (ps_ret (pe_op op_add_str (pe_op op_add_str (pe_op op_add_str (pe_op op_add_str (pe_op op_add_str (pe_op op_add_str pe_str (pe_ix (r := rIxT K) ix_tup (pv 0) pe_int (fun _ _ => rfl))) pe_str) (pcall G__law_term_text hr (T.glo "_law_term_text" (by decide +kernel)) (pa_cons (pe_ix (r := rIxT K) ix_tup (pv 0) pe_int (fun _ _ => rfl)) pa_nil))) pe_str) (pcall G__law_term_text hr (T.glo "_law_term_text" (by decide +kernel)) (pa_cons (pe_ix (r := rIxT K) ix_tup (pv 0) pe_int (fun _ _ => rfl)) pa_nil))) pe_str))) pss_nil)
    (pss_one (ps_ret (pe_ifExp (pt_val (pe_callB (r := rIsi K) call_isi (by rfl) (T.free "isinstance" (by decide +kernel)) (by decide +kernel) (pa_cons (pv 0) (pa_cons (pe_bltn (v := .ty "str") (u := .type "str") (by rfl) (T.free "str" (by decide +kernel)) (by decide +kernel) rfl) pa_nil)))) (pv 0) (pe_callTy call_strU (by rfl) (T.free "str" (by decide +kernel)) (by decide +kernel) (pa_cons (pv 0) pa_nil))))), ?_⟩
  walk_at "st"
  refine isi_ask hd.dp (kit_tuple _) ⟨_, rfl, ?_⟩
  rw [isi_tupleE]
  rcases txB_kind ht with ⟨i, rfl, hi⟩ | ⟨x, rfl, hx⟩ | ⟨ds, rfl⟩
  · obtain rfl := hd.intI
    have q := q H (.refl H)
    rw [exprT_int] at q
    exact iteFb rfl (isi_ask hd.dp (kit_str _) ⟨_, rfl, iteFb (by rw [isi_strE]; rfl) (.inr ⟨i, rfl, int_log i hi, q⟩)⟩)
  · have hd' := hd
    obtain ⟨rfl, _⟩ := hd.strI
    have q := q H (.refl H)
    rw [exprT_str] at q
    exact iteFb rfl (isi_ask hd'.dp (kit_str _) ⟨_, rfl, iteTb (by rw [isi_strE]; rfl) q⟩)
  obtain ⟨m, _, _, _, e, _⟩ := txB_tup ht
  cases e
theorem ok__law_term_text (T : Top K mg w) : ∀ n : Nat, FnR P w K mg base CX0 (n + 1) (He.ga K "_law_term_text") (spExprT K n)
  | 0 => z__law_term_text T (fun _ _ _ _ _ _ _ _ _ _ _ h => h.elim)
  | n + 1 => st__law_term_text T (ok__law_term_text T n)
end
end K91
set_option Elab.async false
set_option linter.all false
set_option maxRecDepth 100000
set_option maxHeartbeats 8000000
namespace K91
open PySem PySem.Spec PyProof.Rows L2
local macro_rules | `(tactic| walk_at "wp") => `(tactic| try simp only [cxK, cxw, cxK', cxw', start1, start2, start3, start4, start5, tRet, tRetN, tAsg, gName, gTup, gCons, gNil, gSub, tDrop, tNext, tIfS, tIf, tVar, tC, tAndV, tOrV, tNotV, tAnd, tOr, tNot, tTest, tB, tCB, tCons, tNil, tOp, tUn, rI0, rI, rU, rEq, rNe, rIn, tChain, tFld, sFld, tSl, tPart, tNoPart, tTup, tLst, tCallR, tMethR, tMethO, tBM, tBM0, tM0, tM1, tDGet, tDIn, tDNotIn, tDNewK, tCmp, t2I, tIsN, tNotN, tYes, tLc_eq, tFor_eq, tLenSetN, iItems, iVals, iKeys, iRng1, tLock, tLockE, tCallKw, tMakeKw, tMethKw, StX.tMakeR, tDc_eq, tLc2_eq, sFldAug, rMulS, tListVals, LiI.tListItems, LiI.rItemsL, RZ.iZipA, iStr, iTup, iList, iEnum, iEnumT, tDGet1, tDGet2, tDisp, tPairs, wipe, List.map_cons, List.map_nil,
  List.length_cons, List.length_nil, Nat.reduceAdd, Nat.reduceSub, List.replicate_succ, List.replicate_zero, if_true, if_false, Bool.not_true, Bool.not_false, Bool.false_eq_true, reduceIte,
  List.set_cons_zero, List.set_cons_succ, List.getElem?_cons_zero, List.getElem?_cons_succ, Option.some.injEq, exists_eq_left', exists_eq_left, V.int.injEq, V.str.injEq, V.bl.injEq, V.ref.injEq, V.ty.injEq, List.cons.injEq, and_true, true_and, and_assoc, exists_and_left, List.nil_append, List.cons_append, List.append_nil])
local macro_rules | `(tactic| walk_at "st") => `(tactic| (refine sq ?_; walk_at "wp"))
section
variable {P : Program} {w : World} {K : PySem.W.Frag} {mg : Str → Option Value} {base : Heap}
theorem partT_body (b : PyData) : partT "body" b = [] := by
  unfold partT
  rw [if_neg (by decide +kernel), if_pos rfl]
theorem partT_args (es : List PyData) : partT "args" (.tuple es) = es.map (exprT 6) := by
  unfold partT
  rw [if_pos rfl]
theorem partT_one {k : Str} (h1 : k ≠ "args") (h2 : k ≠ "body") (d : PyData) : partT k d = [exprT 6 d] := by
  unfold partT
  rw [if_neg h1, if_neg h2]
theorem words_free : ∀ {ks : List Str} {ps : List PyData}, ps.length = ks.length → (∀ k ∈ ks, k ≠ "args" ∧ k ≠ "body") → ((ks.zip ps).flatMap fun q => partT q.1 q.2) = ps.map (exprT 6)
  | [], [], _, _ => rfl
  | k :: ks, p :: ps, h, hk => by
    obtain ⟨h1, h2⟩ := hk k List.mem_cons_self
    rw [List.zip_cons_cons, List.flatMap_cons, words_free (ks := ks) (ps := ps) (Nat.succ.inj h) fun k hk' => hk k (List.mem_cons_of_mem _ hk'), partT_one h1 h2]
    rfl
theorem line_kind {wd : Str} {ks : List Str} (h : shapeOf wd = some ks) : (wd = "loop" ∧ ks = (["body"] : List Str)) ∨ (wd = "try" ∧ ks = (["body", "name", "body"] : List Str)) ∨ (wd = "if" ∧ ks = (["expression", "body", "body"] : List Str)) ∨ ((wd = "call" ∨ wd = "fork") ∧ ∃ k : Str, ks = ([k, "name", "args"] : List Str) ∧ k ≠ "args" ∧ k ≠ "body") ∨ ((["loop", "try", "if"] : List Str).contains wd = false ∧ (["call", "fork"] : List Str).contains wd = false ∧ ∀ k ∈ ks, k ≠ "args" ∧ k ≠ "body") := by
  have z : ∀ q ∈ shapes, (q.1 = ("loop" : Str) ∧ q.2 = (["body"] : List Str)) ∨ (q.1 = ("try" : Str) ∧ q.2 = (["body", "name", "body"] : List Str)) ∨ (q.1 = ("if" : Str) ∧ q.2 = (["expression", "body", "body"] : List Str)) ∨ (q.1 = ("call" : Str) ∧ q.2 = (["name", "name", "args"] : List Str)) ∨ (q.1 = ("fork" : Str) ∧ q.2 = (["expression", "name", "args"] : List Str)) ∨ ((["loop", "try", "if"] : List Str).contains q.1 = false ∧ (["call", "fork"] : List Str).contains q.1 = false ∧ ∀ k ∈ q.2, k ≠ ("args" : Str) ∧ k ≠ ("body" : Str)) := by decide +kernel
  rcases z (wd, ks) (shapeOf_mem h) with h | h | h | ⟨h1, h2⟩ | ⟨h1, h2⟩ | h
  · exact .inl h
  · exact .inr (.inl h)
  · exact .inr (.inr (.inl h))
  · exact .inr (.inr (.inr (.inl ⟨.inl h1, "name", h2, by decide +kernel, by decide +kernel⟩)))
  · exact .inr (.inr (.inr (.inl ⟨.inr h1, "expression", h2, by decide +kernel, by decide +kernel⟩)))
  · exact .inr (.inr (.inr (.inr h)))
theorem join_1 (a : Str) : Txt.join " " [a] = a := by
  rw [join_str]
  rfl
theorem join_2 (a b : Str) : Txt.join " " [a, b] = a ++ (" " ++ b) := by
  rw [join_str]
  show a ++ " " ++ b = _
  rw [Str.append_assoc]
def spLine (K : PySem.W.Frag) : Sp := fun vs H Q _ => ∃ v wd ps ks, vs = [v] ∧ Dt K H v (.tuple (.str wd :: ps)) ∧ shapeOf wd = some ks ∧ partsTx ks ps ∧ (wd = "call" ∨ wd = "fork" → ∃ a f es, ps = [a, .str f, .tuple es]) ∧ ∀ H', Same H H' → Q (.str (Txt.join " " (wordsT wd ks ps))) H'
theorem ok__law_line (T : Top K mg w)  : FnR P w K mg base CX0 8 (He.ga K "_law_line") (spLine K) := by
  obtain ⟨fd, F⟩ := T.def_ d__law_line (List.mem_of_getElem? (i := 69) rfl)
  refine mkR F sc__law_line (fun _ _ _ _ _ _ us hl => match us, hl with | [_], _ => rfl) (fun vs H Q E h => ?_) (fun cdv A outer s H vs Q E hr h => ?_)
  · obtain ⟨v, wd, ps, ks, rfl, _⟩ := h; rfl
  obtain ⟨v, wd, ps, ks, rfl, hd, hk, hp, hcall, q⟩ := h
  have G__law_term_text := ok__law_term_text (P := P) (w := w) (base := base) T 6
  refine ⟨_, pss_cons (ps_set (i := 1) sc__law_line.nd rfl (by first | exact Or.inl rfl | exact Or.inr rfl) (pe_ix (r := rIxT K) ix_tup (pv 0) pe_int (fun _ _ => rfl)))
    (pss_cons (ps_if (pt_cmpR (r := rIn K false) op_in_seq (pv 1) (pe_tup (pa_cons pe_str (pa_cons pe_str (pa_cons pe_str pa_nil)))) rfl) (pss_one (ps_ret (pe_op op_add_str (pv 1) (pe_ifExp (pt_cmpR (op_eq) (pv 1) pe_str (nomark _)) (pe_op op_add_str pe_str (pcall G__law_term_text hr (T.glo "_law_term_text" (by decide +kernel)) (pa_cons (pe_ix (r := rIxT K) ix_tup (pv 0) pe_int (fun _ _ => rfl)) pa_nil))) pe_str)))) pss_nil)
    (pss_cons (ps_if (pt_cmpR (r := rIn K false) op_in_seq (pv 1) (pe_tup (pa_cons pe_str (pa_cons pe_str pa_nil))) rfl) (pss_cons (ps_set (i := 2) sc__law_line.nd rfl (by first | exact Or.inl rfl | exact Or.inr rfl) (pe_lst (pa_cons (pv 1) (pa_cons (pcall G__law_term_text hr (T.glo "_law_term_text" (by decide +kernel)) (pa_cons (pe_ix (r := rIxT K) ix_tup (pv 0) pe_int (fun _ _ => rfl)) pa_nil)) (pa_cons (pe_ix (r := rIxT K) ix_tup (pv 0) pe_int (fun _ _ => rfl)) pa_nil)))))
    (pss_one (ps_ret (pe_join pe_str (pe_op op_cat (pv 2) (pe_lc (own := [("_law_term", 3)]) (g := (gName 3)) (tt := tYes) rfl sc__law_line.nd (pi_tup (pe_ix (r := rIxT K) ix_tup (pv 0) pe_int (fun _ _ => rfl))) (blkOk_by (own := [("_law_term", 3)]) (N := ["_law_statement_here", "_law_word", "_law_parts", "_law_term", "_law_part"]) (sc := defScope s__law_line) (by decide +kernel)) (fun _ _ _ _ _ => (pg_name (i := 3) sc__law_line.nd rfl (by first | exact Or.inl rfl | exact Or.inr rfl))) (fun _ _ _ _ _ => pts_nil) (fun _ _ _ _ _ => (pcall G__law_term_text hr (T.glo "_law_term_text" (by decide +kernel)) (pa_cons (pv 3) pa_nil))))))))) pss_nil)
    (pss_one (ps_ret (pe_join pe_str (pe_op op_cat (pe_lst (pa_cons (pv 1) pa_nil)) (pe_lc (own := [("_law_part", 4)]) (g := (gName 4)) (tt := tYes) rfl sc__law_line.nd (pi_tup (pe_slice (r := rSlT K) sl_tup (pv 0) (po_some pe_int) po_none)) (blkOk_by (own := [("_law_part", 4)]) (N := ["_law_statement_here", "_law_word", "_law_parts", "_law_term", "_law_part"]) (sc := defScope s__law_line) (by decide +kernel)) (fun _ _ _ _ _ => (pg_name (i := 4) sc__law_line.nd rfl (by first | exact Or.inl rfl | exact Or.inr rfl))) (fun _ _ _ _ _ => pts_nil) (fun _ _ _ _ _ => (pcall G__law_term_text hr (T.glo "_law_term_text" (by decide +kernel)) (pa_cons (pv 4) pa_nil)))))))))), ?_⟩
  have zl := line_big
  obtain ⟨a, xs, rfl, hT, hX⟩ := hd.tupI
  obtain ⟨v0, vs, rfl, g0, hY⟩ := hX.consI
  obtain ⟨rfl, z0⟩ := g0.strI
  walk_at "st"
  refine ixT_at 0 hT rfl ?_
  walk_at "st"
  refine ⟨by decide, fun p np => ⟨_, .inr (.inl (.inl upd_same)), rfl, rfl, ?_⟩⟩
  have s1 := same_new np (.tup [V.str "loop", V.str "try", V.str "if"])
  have hd1 := hd.keep (tups_of s1)
  rw [show inV (V.str wd) [V.str ("loop" : Str), V.str ("try" : Str), V.str ("if" : Str)] = (["loop", "try", "if"] : List Str).contains wd from in_strs wd ["loop", "try", "if"]]
  have zl8 := word_len hk
  obtain ⟨pl, pt⟩ := hp
  rcases line_kind hk with ⟨rfl, rfl⟩ | ⟨rfl, rfl⟩ | ⟨rfl, rfl⟩ | ⟨hc, k, rfl, n1, n2⟩ | ⟨c1, c2, c3⟩
  · obtain ⟨b, rfl⟩ : ∃ b, ps = [b] := by
      match ps, pl with
      | [b], _ => exact ⟨b, rfl⟩
    have eq : Txt.join " " (wordsT "loop" ["body"] [b]) = "loop" ++ "" := by
      unfold wordsT
      rw [if_neg (by decide +kernel)]
      show Txt.join " " ("loop" :: (partT "body" b ++ [])) = _
      rw [partT_body, List.append_nil, join_1]
      decide +kernel
    rw [eq] at q
    exact iteTb (by decide +kernel) ⟨rfl, iteFb (by decide +kernel) ⟨by decide, q _ s1⟩⟩
  · obtain ⟨b, x, b2, rfl⟩ : ∃ b x b2, ps = [b, x, b2] := by
      match ps, pl with
      | [b, x, b2], _ => exact ⟨b, x, b2, rfl⟩
    have eq : Txt.join " " (wordsT "try" ["body", "name", "body"] [b, x, b2]) = "try" ++ "" := by
      unfold wordsT
      rw [if_pos rfl, join_1]
      decide +kernel
    rw [eq] at q
    exact iteTb (by decide +kernel) ⟨rfl, iteFb (by decide +kernel) ⟨by decide, q _ s1⟩⟩
  · obtain ⟨e, b1, b2, rfl⟩ : ∃ b x b2, ps = [b, x, b2] := by
      match ps, pl with
      | [b, x, b2], _ => exact ⟨b, x, b2, rfl⟩
    have eq : Txt.join " " (wordsT "if" ["expression", "body", "body"] [e, b1, b2]) = "if" ++ (" " ++ exprT 6 e) := by
      unfold wordsT
      rw [if_neg (by decide +kernel)]
      show Txt.join " " ("if" :: (partT "expression" e ++ (partT "body" b1 ++ (partT "body" b2 ++ [])))) = _
      rw [partT_body, partT_body, partT_one (by decide +kernel) (by decide +kernel)]
      exact join_2 _ _
    rw [eq] at q
    have he := (pt ("expression", e) List.mem_cons_self).2 (show ("expression" : Str) ≠ "args" by decide +kernel) (show ("expression" : Str) ≠ "body" by decide +kernel)
    have ln := exprT_len 6 e he
    obtain ⟨v1, vs, rfl, g1, hY⟩ := hY.consI
    have e3 : ((" " : String) : Str).length = 1 := rfl
    exact iteTb (by decide +kernel) ⟨rfl, iteTb (by decide +kernel) (ixT_at 1 ((tups_of s1).sqT hT) rfl ⟨v1, e, rfl, g1.keep (tups_of s1), he, by omega, fun H1 s2 => ⟨_, rfl, by omega, by rw [Str.length_append, e3]; omega, q _ (s1.trans s2)⟩⟩)⟩
  · obtain ⟨a0, f, es, rfl⟩ := hcall hc
    refine iteFb (by rcases hc with rfl | rfl <;> decide +kernel) ?_
    walk_at "st"
    refine ⟨by decide, fun p1 np1 => ⟨_, .inr (.inl (.inl upd_same)), rfl, rfl, ?_⟩⟩
    rw [show inV (V.str wd) [V.str ("call" : Str), V.str ("fork" : Str)] = (["call", "fork"] : List Str).contains wd from in_strs wd ["call", "fork"]]
    refine iteTb (by rcases hc with rfl | rfl <;> decide +kernel) ?_
    have s2 := s1.trans (same_new np1 (.tup [V.str "call", V.str "fork"]))
    generalize upd (upd H p (.tup [V.str "loop", V.str "try", V.str "if"])) p1 (.tup [V.str "call", V.str "fork"]) = H1 at s2 ⊢
    have ha := (pt (k, a0) List.mem_cons_self).2 n1 n2
    obtain ⟨es', ee, le, he⟩ := (pt (("args" : Str), PyData.tuple es) (by simp)).1 rfl
    cases ee
    obtain ⟨v1, vs, rfl, g1, hY⟩ := hY.consI
    obtain ⟨v2, vs, rfl, g2, hY⟩ := hY.consI
    obtain ⟨v3, vs, rfl, g3, hY⟩ := hY.consI
    obtain ⟨rfl, z2⟩ := g2.strI
    obtain ⟨at', xs', rfl, hT3, hX3⟩ := g3.tupI
    have eq : wordsT wd [k, "name", "args"] [a0, .str f, .tuple es] = [wd, exprT 6 a0, f] ++ es.map (exprT 6) := by
      unfold wordsT
      rw [if_neg (by rcases hc with rfl | rfl <;> decide +kernel)]
      show wd :: (partT k a0 ++ (partT "name" (.str f) ++ (partT "args" (.tuple es) ++ []))) = _
      rw [partT_one n1 n2, partT_one (by decide +kernel) (by decide +kernel), partT_args, List.append_nil, exprT_str]
      rfl
    have jf := join_fits (wordsT_each hk ⟨pl, pt⟩) (wordsT_len hk ⟨pl, pt⟩)
    rw [eq] at q jf
    walk_at "st"
    refine ixT_at 1 ((tups_of s2).sqT hT) rfl ⟨v1, a0, rfl, g1.keep (tups_of s2), ha, by omega, fun H2 s3 => ixT_at 2 ((tups_of (s2.trans s3)).sqT hT) rfl ⟨by decide, fun f1 nf1 => ?_⟩⟩
    have s4 := same_new nf1 (.lst [V.str wd, V.str (exprT 6 a0), V.str f])
    have e4 := upd_same (H := H2) (a := f1) (o := .lst [V.str wd, V.str (exprT 6 a0), V.str f])
    generalize upd H2 f1 (.lst [V.str wd, V.str (exprT 6 a0), V.str f]) = H4 at s4 e4 ⊢
    have s04 := (s2.trans s3).trans s4
    walk_at "wp"
    refine ⟨⟨_, rfl⟩, ?_⟩
    refine ixT_at 3 ((tups_of s04).sqT hT) rfl ⟨_, rfl, ⟨_, (tups_of s04).sqT hT3⟩, ?_⟩
    refine lcTexts (Nat.lt_succ_of_lt (Nat.lt_succ_self 3)) ((tups_of s04).sqT hT3) (hX3.keep (tups_of s04)) (by omega) he fun D H5 s5 nD eD => ?_
    exact ⟨f1, D, _, _, rfl, rfl, s5 _ _ e4, eD, by simp only [List.length_map, List.length_cons, List.length_nil]; omega, fun r nr => ⟨r, rfl, [wd, exprT 6 a0, f] ++ es.map (exprT 6), .inl (.of (by rw [upd_same]; simp)), jf, q _ ((s04.trans s5).trans (same_new nr _))⟩⟩
  · refine iteFb c1 ?_
    walk_at "st"
    refine ⟨by decide, fun p1 np1 => ⟨_, .inr (.inl (.inl upd_same)), rfl, rfl, ?_⟩⟩
    rw [show inV (V.str wd) [V.str ("call" : Str), V.str ("fork" : Str)] = (["call", "fork"] : List Str).contains wd from in_strs wd ["call", "fork"]]
    refine iteFb c2 ⟨⟨_, rfl⟩, by decide, fun f1 nf1 => ?_⟩
    have s2 := (s1.trans (same_new np1 (.tup [V.str "call", V.str "fork"]))).trans (same_new nf1 (.lst [V.str wd]))
    have e2 := upd_same (H := upd (upd H p (.tup [V.str "loop", V.str "try", V.str "if"])) p1 (.tup [V.str "call", V.str "fork"])) (a := f1) (o := .lst [V.str wd])
    generalize upd (upd (upd H p (.tup [V.str "loop", V.str "try", V.str "if"])) p1 (.tup [V.str "call", V.str "fork"])) f1 (.lst [V.str wd]) = H2 at s2 e2 ⊢
    have eq : wordsT wd ks ps = [wd] ++ ps.map (exprT 6) := by
      unfold wordsT
      rw [if_neg (by rintro rfl; revert c1; decide +kernel), words_free pl c3]
      rfl
    have jf := join_fits (wordsT_each hk ⟨pl, pt⟩) (wordsT_len hk ⟨pl, pt⟩)
    rw [eq] at q jf
    refine sl_tail ((tups_of s2).sqT hT) fun p2 np2 => ⟨p2, rfl, ⟨_, .inl (.inl upd_same)⟩, ?_⟩
    have s3 := same_new np2 (.tup vs)
    have hz : ps.length ≤ 4 := by have := shape_len hk; omega
    refine lcTexts (Nat.lt_succ_self 4) (.inl (.inl upd_same)) (hY.keep (tups_of (s2.trans s3))) (by omega) (fun e hx => ?_) fun D H4 s4 nD eD => ?_
    · obtain ⟨j, hj, rfl⟩ := List.mem_iff_getElem.mp hx
      have hj2 : j < (ks.zip ps).length := by rw [List.length_zip]; omega
      have hm := List.getElem_mem hj2
      have hpz := pt _ hm
      rw [List.getElem_zip] at hpz
      obtain ⟨m1, m2⟩ := c3 _ (List.getElem_mem (show j < ks.length by omega))
      exact hpz.2 m1 m2
    exact ⟨f1, D, _, _, rfl, rfl, s4 _ _ (s3 _ _ e2), eD, by simp only [List.length_map, List.length_cons, List.length_nil]; omega, fun r nr => ⟨r, rfl, [wd] ++ ps.map (exprT 6), .inl (.of (by rw [upd_same]; simp)), jf, q _ (((s2.trans s3).trans s4).trans (same_new nr _))⟩⟩
end
end K91
set_option Elab.async false
set_option linter.all false
set_option maxRecDepth 100000
set_option maxHeartbeats 8000000
namespace K91
open PySem PySem.Spec PyProof.Rows L2
local macro_rules | `(tactic| walk_at "wp") => `(tactic| try simp only [cxK, cxw, cxK', cxw', start1, start2, start3, start4, start5, tRet, tRetN, tAsg, gName, gTup, gCons, gNil, gSub, tDrop, tNext, tIfS, tIf, tVar, tC, tAndV, tOrV, tNotV, tAnd, tOr, tNot, tTest, tB, tCB, tCons, tNil, tOp, tUn, rI0, rI, rU, rEq, rNe, rIn, tChain, tFld, sFld, tSl, tPart, tNoPart, tTup, tLst, tCallR, tMethR, tMethO, tBM, tBM0, tM0, tM1, tDGet, tDIn, tDNotIn, tDNewK, tCmp, t2I, tIsN, tNotN, tYes, tLc_eq, tFor_eq, tLenSetN, iItems, iVals, iKeys, iRng1, tLock, tLockE, tCallKw, tMakeKw, tMethKw, StX.tMakeR, tDc_eq, tLc2_eq, sFldAug, rMulS, tListVals, LiI.tListItems, LiI.rItemsL, RZ.iZipA, iStr, iTup, iList, iEnum, iEnumT, tDGet1, tDGet2, tDisp, tPairs, wipe, List.map_cons, List.map_nil,
  List.length_cons, List.length_nil, Nat.reduceAdd, Nat.reduceSub, List.replicate_succ, List.replicate_zero, if_true, if_false, Bool.not_true, Bool.not_false, Bool.false_eq_true, reduceIte,
  List.set_cons_zero, List.set_cons_succ, List.getElem?_cons_zero, List.getElem?_cons_succ, Option.some.injEq, exists_eq_left', exists_eq_left, V.int.injEq, V.str.injEq, V.bl.injEq, V.ref.injEq, V.ty.injEq, List.cons.injEq, and_true, true_and, and_assoc, exists_and_left, List.nil_append, List.cons_append, List.append_nil])
local macro_rules | `(tactic| walk_at "st") => `(tactic| (refine sq ?_; walk_at "wp"))
section
variable {P : Program} {w : World} {K : PySem.W.Frag} {mg : Str → Option Value} {base : Heap}
def row1 (B : PyData → List Str) (wd : Str) (ps : List PyData) : List Str := if (["loop", "try"] : List Str).contains wd = true then B (ps.getD 0 (.tuple [])) else []
def row2 (B : PyData → List Str) (dp : Nat) (wd : Str) (ps : List PyData) : List Str := if wd = "if" then B (ps.getD 1 (.tuple [])) ++ [indT dp ["else"]] else []
def row3 (dp : Nat) (wd : Str) (ps : List PyData) : List Str := if wd = "try" then [indT dp (midT wd ps)] else []
def row4 (B : PyData → List Str) (wd : Str) (ps : List PyData) : List Str := if (["if", "try"] : List Str).contains wd = true then B (ps.getD 2 (.tuple [])) else []
theorem stmt_rows {B : PyData → List Str} {dp : Nat} {wd : Str} {ks : List Str} {ps : List PyData} (hk : shapeOf wd = some ks) (hl : ps.length = ks.length) : stmtT B dp (.tuple (.str wd :: ps)) = indT dp (wordsT wd ks ps) :: (row1 B wd ps ++ row2 B dp wd ps ++ row3 dp wd ps ++ row4 B wd ps) := by
  have e : stmtT B dp (.tuple (.str wd :: ps)) = indT dp (wordsT wd ks ps) :: ((bodiesL ks ps).zipIdx.flatMap fun q => (if q.2 = 1 then [indT dp (midT wd ps)] else []) ++ B q.1) := by
    show indT dp (wordsT wd ((shapeOf wd).getD []) ps) :: ((bodiesL ((shapeOf wd).getD []) ps).zipIdx.flatMap _) = _
    rw [hk]
    rfl
  rw [e]
  congr 1
  unfold row1 row2 row3 row4
  rcases line_kind hk with ⟨rfl, rfl⟩ | ⟨rfl, rfl⟩ | ⟨rfl, rfl⟩ | ⟨hc, k, rfl, n1, n2⟩ | ⟨c1, c2, c3⟩
  · match ps, hl with
    | [b], _ =>
      rw [if_pos (by decide +kernel), if_neg (by decide +kernel), if_neg (by decide +kernel), if_neg (by decide +kernel), show bodiesL (["body"] : List Str) [b] = [b] from rfl]
      simp
  · match ps, hl with
    | [a, x, b], _ =>
      rw [if_pos (by decide +kernel), if_neg (by decide +kernel), if_pos rfl, if_pos (by decide +kernel), show bodiesL (["body", "name", "body"] : List Str) [a, x, b] = [a, b] from rfl]
      simp
  · match ps, hl with
    | [a, x, b], _ =>
      rw [if_neg (by decide +kernel), if_pos rfl, if_neg (by decide +kernel), if_pos (by decide +kernel), show bodiesL (["expression", "body", "body"] : List Str) [a, x, b] = [x, b] from rfl, show midT "if" [a, x, b] = (["else"] : List Str) from by unfold midT; rw [if_pos rfl]]
      simp
  · rw [bodies_none (by simp [Ne.symm n2]; decide +kernel)]
    rcases hc with rfl | rfl
    · rw [if_neg (by decide +kernel), if_neg (by decide +kernel), if_neg (by decide +kernel), if_neg (by decide +kernel)]; rfl
    · rw [if_neg (by decide +kernel), if_neg (by decide +kernel), if_neg (by decide +kernel), if_neg (by decide +kernel)]; rfl
  · rw [bodies_none fun z => (c3 _ z).2 rfl]
    have d1 : wd ≠ "loop" := by rintro rfl; revert c1; decide +kernel
    have d2 : wd ≠ "try" := by rintro rfl; revert c1; decide +kernel
    have d3 : wd ≠ "if" := by rintro rfl; revert c1; decide +kernel
    rw [if_neg (by simp [d1, d2]), if_neg d3, if_neg d2, if_neg (by simp [d2, d3])]
    rfl
theorem at_1 {wd : Str} {ks : List Str} {ps : List PyData} (hk : shapeOf wd = some ks) (hl : ps.length = ks.length) (c : (["loop", "try"] : List Str).contains wd = true) : ∃ b, ps[0]? = some b ∧ b ∈ bodiesL ks ps ∧ ps.getD 0 (.tuple []) = b := by
  rcases line_kind hk with ⟨rfl, rfl⟩ | ⟨rfl, rfl⟩ | ⟨rfl, rfl⟩ | ⟨hc, k, rfl, n1, n2⟩ | ⟨c1, c2, c3⟩
  · match ps, hl with
    | [b], _ => exact ⟨b, rfl, List.mem_cons_self, rfl⟩
  · match ps, hl with
    | [a, x, b], _ => exact ⟨a, rfl, List.mem_cons_self, rfl⟩
  · exact absurd c (by decide +kernel)
  · rcases hc with rfl | rfl <;> exact absurd c (by decide +kernel)
  · have z : wd = "loop" ∨ wd = "try" := by simpa using c
    rcases z with rfl | rfl <;> exact absurd c1 (by decide +kernel)
theorem at_2 {ks : List Str} {ps : List PyData} (hk : shapeOf "if" = some ks) (hl : ps.length = ks.length) : ∃ b, ps[1]? = some b ∧ b ∈ bodiesL ks ps ∧ ps.getD 1 (.tuple []) = b := by
  obtain rfl : ks = (["expression", "body", "body"] : List Str) := Option.some.inj (hk.symm.trans (by decide +kernel))
  match ps, hl with
  | [a, x, b], _ => exact ⟨x, rfl, List.mem_cons_self, rfl⟩
theorem at_4 {wd : Str} {ks : List Str} {ps : List PyData} (hk : shapeOf wd = some ks) (hl : ps.length = ks.length) (c : (["if", "try"] : List Str).contains wd = true) : ∃ b, ps[2]? = some b ∧ b ∈ bodiesL ks ps ∧ ps.getD 2 (.tuple []) = b := by
  have z : wd = "if" ∨ wd = "try" := by simpa using c
  rcases z with rfl | rfl
  · obtain rfl : ks = (["expression", "body", "body"] : List Str) := Option.some.inj (hk.symm.trans (by decide +kernel))
    match ps, hl with
    | [a, x, b], _ => exact ⟨b, rfl, List.mem_cons_of_mem _ List.mem_cons_self, rfl⟩
  · obtain rfl : ks = (["body", "name", "body"] : List Str) := Option.some.inj (hk.symm.trans (by decide +kernel))
    match ps, hl with
    | [a, x, b], _ => exact ⟨b, rfl, List.mem_cons_of_mem _ List.mem_cons_self, rfl⟩
theorem mul_next (n : Nat) (h : n ≤ 24) : Txt.mul ("  " : String) ((n + 1 : Nat) : Int) = Txt.mul ("  " : String) (n : Int) ++ "  " := by
  have e : ∀ m : Nat, m < 25 → Txt.mul ("  " : String) ((m + 1 : Nat) : Int) = Txt.mul ("  " : String) (m : Int) ++ "  " := by decide +kernel
  exact e n (by omega)
theorem ind_else (dp : Nat) : indT dp ["else"] = Txt.mul ("  " : String) (dp : Int) ++ "else" := by
  unfold indT
  rw [join_1]
theorem ind_handle (dp : Nat) (a c : PyData) (x : Str) : indT dp (midT "try" [a, .str x, c]) = Txt.mul ("  " : String) (dp : Int) ++ "handle " ++ x := by
  unfold indT midT
  rw [if_neg (by decide +kernel)]
  show _ ++ Txt.join " " ["handle", x] = _
  rw [join_2, show ("handle " : Str) = "handle" ++ " " by decide +kernel]
  simp only [Str.append_assoc]
/-- the rows of a body, as the law writes them -/
def spLawRows (K : PySem.W.Frag) (n : Nat) : Sp := fun vs H Q _ => ∃ v d, ∃ dp l : Nat, ∃ c, vs = [v, .str (Txt.mul "  " (dp : Int))] ∧ Dt K H v d ∧ bodyTx n d ∧ lawB c n l d ∧ dp + n ≤ 20 ∧ (bodyT n dp d).length ≤ 100000 ∧ ∀ H' a, Same H H' → H a = none → StrsL H' a (bodyT n dp d) → Q (.ref a) H'
theorem st__law_rows (T : Top K mg w) {n : Nat} (G__law_rows : FnR P w K mg base CX0 (n + 8) (He.ga K "_law_rows") (spLawRows K n)) : FnR P w K mg base CX0 (n + 1 + 8) (He.ga K "_law_rows") (spLawRows K (n + 1)) := by
  obtain ⟨fd, F⟩ := T.def_ d__law_rows (List.mem_of_getElem? (i := 70) rfl)
  refine mkR F sc__law_rows (fun _ _ _ _ _ _ us hl => match us, hl with | [_, _], _ => rfl) (fun vs H Q E h => ?_) (fun cdv A outer s H vs Q E hr h => ?_)
  · obtain ⟨v, d, dp, l, c, rfl, _⟩ := h; rfl
  obtain ⟨v, d, dp, l, c, rfl, hd, hb, hc, hn, hl, q⟩ := h
  have G__law_line := ok__law_line (P := P) (w := w) (base := base) T
  refine ⟨_, pss_cons (ps_set (i := 2) sc__law_rows.nd rfl (by first | exact Or.inl rfl | exact Or.inr rfl) (pe_lst pa_nil))
    (pss_cons (ps_for PassesOwn.never rfl (pi_tup (pv 0)) (pg_name (i := 3) sc__law_rows.nd rfl (by first | exact Or.inl rfl | exact Or.inr rfl))
    (pss_cons (ps_expr (pe_bm PySem.F.plainAttrs_list PySem.F.slot_list_append PySem.F.type_list_append mt_append (pv 2) (pa_cons (pe_op op_add_str (pv 1) (pcall G__law_line hr (T.glo "_law_line" (by decide +kernel)) (pa_cons (pv 3) pa_nil))) pa_nil)))
    (pss_cutK (ps_if (pt_cmpR (r := rIn K false) op_in_seq (pe_ix (r := rIxT K) ix_tup (pv 3) pe_int (fun _ _ => rfl)) (pe_tup (pa_cons pe_str (pa_cons pe_str pa_nil))) rfl) (pss_one (ps_expr (pe_bm PySem.F.plainAttrs_list PySem.F.slot_list_extend PySem.F.type_list_extend mt_extend (pv 2) (pa_cons (pcall G__law_rows hr (T.glo "_law_rows" (by decide +kernel)) (pa_cons (pe_ix (r := rIxT K) ix_tup (pv 3) pe_int (fun _ _ => rfl)) (pa_cons (pe_op op_add_str (pv 1) pe_str) pa_nil))) pa_nil)))) pss_nil)
    (pss_cutK (ps_if (pt_cmpR (op_eq) (pe_ix (r := rIxT K) ix_tup (pv 3) pe_int (fun _ _ => rfl)) pe_str (nomark _)) (pss_cons (ps_expr (pe_bm PySem.F.plainAttrs_list PySem.F.slot_list_extend PySem.F.type_list_extend mt_extend (pv 2) (pa_cons (pcall G__law_rows hr (T.glo "_law_rows" (by decide +kernel)) (pa_cons (pe_ix (r := rIxT K) ix_tup (pv 3) pe_int (fun _ _ => rfl)) (pa_cons (pe_op op_add_str (pv 1) pe_str) pa_nil))) pa_nil)))
    (pss_one (ps_expr (pe_bm PySem.F.plainAttrs_list PySem.F.slot_list_append PySem.F.type_list_append mt_append (pv 2) (pa_cons (pe_op op_add_str (pv 1) pe_str) pa_nil))))) pss_nil)
    (pss_cutK (ps_if (pt_cmpR (op_eq) (pe_ix (r := rIxT K) ix_tup (pv 3) pe_int (fun _ _ => rfl)) pe_str (nomark _)) (pss_one (ps_expr (pe_bm PySem.F.plainAttrs_list PySem.F.slot_list_append PySem.F.type_list_append mt_append (pv 2) (pa_cons (pe_op op_add_str (pe_op op_add_str (pv 1) pe_str) (pe_ix (r := rIxT K) ix_tup (pv 3) pe_int (fun _ _ => rfl))) pa_nil)))) pss_nil)
    (pss_one (ps_if (pt_cmpR (r := rIn K false) op_in_seq (pe_ix (r := rIxT K) ix_tup (pv 3) pe_int (fun _ _ => rfl)) (pe_tup (pa_cons pe_str (pa_cons pe_str pa_nil))) rfl) (pss_one (ps_expr (pe_bm PySem.F.plainAttrs_list PySem.F.slot_list_extend PySem.F.type_list_extend mt_extend (pv 2) (pa_cons (pcall G__law_rows hr (T.glo "_law_rows" (by decide +kernel)) (pa_cons (pe_ix (r := rIxT K) ix_tup (pv 3) pe_int (fun _ _ => rfl)) (pa_cons (pe_op op_add_str (pv 1) pe_str) pa_nil))) pa_nil)))) pss_nil)))))))
    (pss_one (ps_ret (pv 2)))), ?_⟩
  have zl := line_big
  walk_at "st"
  refine ⟨Nat.zero_le _, fun f nf => ?_⟩
  obtain ⟨ds, rfl, hds, hs⟩ := hb
  obtain ⟨_, ee, _, _, hcs⟩ := hc
  cases ee
  obtain ⟨a, xs, rfl, hT, hA⟩ := hd.tupI
  have hlx := dta_len hA
  have s0 := same_new nf (.lst [])
  have eB : bodyT (n + 1) dp (.tuple ds) = ds.flatMap (stmtT (bodyT n (dp + 1)) dp) := rfl
  rw [eB] at hl q
  walk_at "st"
  refine ⟨⟨_, (tups_of s0).sqT hT⟩, forGo walk_tup (fun i σ H' => ∃ x3, σ = [some (V.ref a), some (V.str (Txt.mul "  " (dp : Int))), some (V.ref f), x3] ∧ Same H H' ∧ StrsL H' f ((ds.take i).flatMap (stmtT (bodyT n (dp + 1)) dp)))
    ⟨_, rfl, s0, upd_same⟩ (fun _ _ _ _ ⟨_, _, sm, _⟩ => (tups_of sm).sqT hT) ?_ ?_⟩
  · rintro i y σ H1 H2 hi ⟨x3, rfl, sm, hf⟩ ⟨eH, ey⟩
    subst eH
    obtain ⟨d, hd', gd⟩ := dta_of hA ey
    obtain ⟨wd, ps, ks, rfl, hk, hp, htry, hB⟩ := hs d (List.mem_of_getElem? hd')
    obtain ⟨wd', ps', ks', ee, hk', hlen, hp3, hu, hL⟩ := hcs _ (List.mem_of_getElem? hd')
    cases ee
    obtain rfl : ks' = ks := by rw [hk] at hk'; exact (Option.some.inj hk').symm
    have gd1 := gd.keep (tups_of sm)
    have l1 := flat_take_le (stmtT (bodyT n (dp + 1)) dp) ds (i + 1)
    rw [flat_take_succ _ hd', List.length_append] at l1
    walk_at "wp"
    walk_at "st"
    obtain ⟨aS, xS, rfl, hTs, hAs⟩ := gd1.tupI
    obtain ⟨v0, vs, rfl, g0, hY⟩ := hAs.consI
    obtain ⟨rfl, z0⟩ := g0.strI
    have wl := wordsT_len hk hp
    have we := wordsT_each hk hp
    have jf := join_fits we wl
    have hjl := join_len (" " : String) (wordsT wd ks' ps)
    have e1 : ((" " : String) : Str).length = 1 := rfl
    have e2 : (("  " : String) : Str).length = 2 := rfl
    rw [e1] at hjl
    have hml := mul_len dp (by omega)
    have es := stmt_rows (B := bodyT n (dp + 1)) (dp := dp) hk hlen
    have esl := congrArg List.length es
    rw [es] at l1
    simp only [List.length_cons, List.length_append] at l1
    refine ⟨tyL hf, V.ref aS, wd, ps, ks', rfl, gd1, hk, hp, fun z => ?_, fun H3 s3 => ⟨_, rfl, by have := sum_le we; have e3 : (wordsT wd ks' ps).length * 4788 ≤ 21 * 4788 := Nat.mul_le_mul_right _ wl; omega, ?_⟩⟩
    · rcases z with z | z
      · obtain ⟨a', f', es', e, _⟩ := hu.1 z; exact ⟨a', f', es', e⟩
      · obtain ⟨a', f', es', e, _⟩ := hu.2.1 z; exact ⟨a', f', es', e⟩
    have hf3 := s3 _ _ hf
    refine app_ask hf3 (by rw [List.length_map]; omega) ?_
    have t4 := (tups_of s3).trans (tups_lst hf3 (.lst (((ds.take i).flatMap (stmtT (bodyT n (dp + 1)) dp)).map V.str ++ [.str (indT dp (wordsT wd ks' ps))])))
    have sm4 := same_at nf (sm.trans s3) (.lst (((ds.take i).flatMap (stmtT (bodyT n (dp + 1)) dp)).map V.str ++ [.str (indT dp (wordsT wd ks' ps))]))
    have hf4 : StrsL (upd H3 f (.lst (((ds.take i).flatMap (stmtT (bodyT n (dp + 1)) dp)).map V.str ++ [.str (indT dp (wordsT wd ks' ps))]))) f ((ds.take i).flatMap (stmtT (bodyT n (dp + 1)) dp) ++ [indT dp (wordsT wd ks' ps)]) := by
      rw [StrsL, upd_same]; simp
    rw [show Txt.mul ("  " : String) (dp : Int) ++ Txt.join " " (wordsT wd ks' ps) = indT dp (wordsT wd ks' ps) from rfl]
    generalize upd H3 f (.lst (((ds.take i).flatMap (stmtT (bodyT n (dp + 1)) dp)).map V.str ++ [.str (indT dp (wordsT wd ks' ps))])) = H4 at t4 sm4 hf4 ⊢
    refine cutI (fun σ' H' => σ' = [some (V.ref a), some (V.str (Txt.mul "  " (dp : Int))), some (V.ref f), some (V.ref aS)] ∧ Same H H' ∧ StrsL H' f ((ds.take i).flatMap (stmtT (bodyT n (dp + 1)) dp) ++ [indT dp (wordsT wd ks' ps)] ++ row1 (bodyT n (dp + 1)) wd ps) ∧ Tups H2 H') ?_ ?_
    · walk_at "wp"
      refine ixT_at 0 (t4.sqT hTs) rfl ⟨by decide, fun p np => ⟨_, .inr (.inl (.inl upd_same)), rfl, rfl, ?_⟩⟩
      rw [show inV (V.str wd) [V.str ("loop" : Str), V.str ("try" : Str)] = (["loop", "try"] : List Str).contains wd from in_strs wd ["loop", "try"]]
      have sp := same_new np (.tup [V.str "loop", V.str "try"])
      generalize upd H4 p (.tup [V.str "loop", V.str "try"]) = Hb at sp ⊢
      have hfb := sp _ _ hf4
      have tb := t4.trans (tups_of sp)
      refine ite2 (fun cc => ?_) (fun cc => ?_)
      · obtain ⟨b, hb0, hbm, hgd⟩ := at_1 hk hlen cc
        obtain ⟨vb, hvb, gb⟩ := dta_get hY hb0
        have er : row1 (bodyT n (dp + 1)) wd ps = bodyT n (dp + 1) b := by unfold row1; rw [if_pos cc, hgd]
        rw [er] at l1 ⊢
        refine ⟨tyL hfb, ixT_at 1 (tb.sqT hTs) hvb ⟨by omega, vb, b, dp + 1, _, c, by rw [mul_next dp (by omega)], gb.keep tb, hB b hbm, hL b hbm, by omega, by omega, fun H5 l5 s5 nl5 el5 => ?_⟩⟩
        have hf5 := s5 _ _ hfb
        refine ext_ask hf5 el5 (by simp only [List.length_map, List.length_append, List.length_cons, List.length_nil]; omega) ?_
        exact ⟨same_at nf ((sm4.trans sp).trans s5) _, by rw [StrsL, upd_same]; simp, tb.trans ((tups_of s5).trans (tups_lst hf5 _))⟩
      · have er : row1 (bodyT n (dp + 1)) wd ps = [] := by unfold row1; rw [if_neg cc]
        rw [er, List.append_nil]
        exact ⟨sm4.trans sp, hfb, tb⟩
    rintro σ' H5 ⟨rfl, sm5, hf5, t5⟩
    refine cutI (fun σ' H' => σ' = [some (V.ref a), some (V.str (Txt.mul "  " (dp : Int))), some (V.ref f), some (V.ref aS)] ∧ Same H H' ∧ StrsL H' f ((ds.take i).flatMap (stmtT (bodyT n (dp + 1)) dp) ++ [indT dp (wordsT wd ks' ps)] ++ row1 (bodyT n (dp + 1)) wd ps ++ row2 (bodyT n (dp + 1)) dp wd ps) ∧ Tups H2 H') ?_ ?_
    · walk_at "wp"
      refine ixT_at 0 (t5.sqT hTs) rfl ⟨rfl, ite2 (fun cc => ?_) (fun cc => ?_)⟩
      · obtain rfl : wd = "if" := V.str.inj (of_decide_eq_true cc)
        obtain ⟨b, hb0, hbm, hgd⟩ := at_2 hk hlen
        obtain ⟨vb, hvb, gb⟩ := dta_get hY hb0
        have er : row2 (bodyT n (dp + 1)) dp "if" ps = bodyT n (dp + 1) b ++ [indT dp ["else"]] := by unfold row2; rw [if_pos rfl, hgd]
        rw [er, List.length_append] at l1
        rw [er]
        have e4 : (("else" : String) : Str).length = 4 := rfl
        walk_at "st"
        refine ⟨tyL hf5, ixT_at 2 (t5.sqT hTs) hvb ⟨by omega, vb, b, dp + 1, _, c, by rw [mul_next dp (by omega)], gb.keep t5, hB b hbm, hL b hbm, by omega, by omega, fun H6 l6 s6 nl6 el6 => ?_⟩⟩
        have hf6 := s6 _ _ hf5
        refine ext_ask hf6 el6 (by simp only [List.length_map, List.length_append, List.length_cons, List.length_nil]; omega) ?_
        walk_at "wp"
        refine ⟨tyL upd_same, by omega, app_ask upd_same (by simp only [List.length_map, List.length_append, List.length_cons, List.length_nil]; omega) ?_⟩
        rw [← ind_else]
        exact ⟨same_at nf (same_at nf (sm5.trans s6) _) _, by rw [StrsL, upd_same]; simp, t5.trans ((tups_of s6).trans ((tups_lst hf6 _).trans (tups_lst upd_same _)))⟩
      · have er : row2 (bodyT n (dp + 1)) dp wd ps = [] := by
          unfold row2; rw [if_neg fun z => cc (decide_eq_true (congrArg V.str z))]
        rw [er, List.append_nil]
        exact ⟨sm5, hf5, t5⟩
    rintro σ' H6 ⟨rfl, sm6, hf6, t6⟩
    refine cutI (fun σ' H' => σ' = [some (V.ref a), some (V.str (Txt.mul "  " (dp : Int))), some (V.ref f), some (V.ref aS)] ∧ Same H H' ∧ StrsL H' f ((ds.take i).flatMap (stmtT (bodyT n (dp + 1)) dp) ++ [indT dp (wordsT wd ks' ps)] ++ row1 (bodyT n (dp + 1)) wd ps ++ row2 (bodyT n (dp + 1)) dp wd ps ++ row3 dp wd ps) ∧ Tups H2 H') ?_ ?_
    · walk_at "wp"
      refine ixT_at 0 (t6.sqT hTs) rfl ⟨rfl, ite2 (fun cc => ?_) (fun cc => ?_)⟩
      · obtain rfl : wd = "try" := V.str.inj (of_decide_eq_true cc)
        obtain ⟨pa, px, pc, rfl, hx8⟩ := htry rfl
        obtain ⟨u0, _, rfl, k0, hY2⟩ := hY.consI
        obtain ⟨u1, _, rfl, k1, hY2⟩ := hY2.consI
        obtain ⟨rfl, _⟩ := k1.strI
        have er : row3 dp "try" [pa, .str px, pc] = [indT dp (midT "try" [pa, .str px, pc])] := by unfold row3; rw [if_pos rfl]
        rw [er] at l1 ⊢
        have e4 : (("handle " : String) : Str).length = 7 := rfl
        refine ⟨tyL hf6, by omega, ixT_at 2 (t6.sqT hTs) rfl ⟨px, rfl, by rw [Str.length_append]; omega, app_ask hf6 (by simp only [List.length_map, List.length_append, List.length_cons, List.length_nil]; omega) ?_⟩⟩
        rw [← ind_handle dp pa pc px]
        exact ⟨same_at nf sm6 _, by rw [StrsL, upd_same]; simp, t6.trans (tups_lst hf6 _)⟩
      · have er : row3 dp wd ps = [] := by
          unfold row3; rw [if_neg fun z => cc (decide_eq_true (congrArg V.str z))]
        rw [er, List.append_nil]
        exact ⟨sm6, hf6, t6⟩
    rintro σ' H7 ⟨rfl, sm7, hf7, t7⟩
    walk_at "wp"
    rw [flat_take_succ _ hd', es]
    refine ixT_at 0 (t7.sqT hTs) rfl ⟨by decide, fun p np => ⟨_, .inr (.inl (.inl upd_same)), rfl, rfl, ?_⟩⟩
    rw [show inV (V.str wd) [V.str ("if" : Str), V.str ("try" : Str)] = (["if", "try"] : List Str).contains wd from in_strs wd ["if", "try"]]
    have sp := same_new np (.tup [V.str "if", V.str "try"])
    generalize upd H7 p (.tup [V.str "if", V.str "try"]) = Hb at sp ⊢
    have hfb := sp _ _ hf7
    have tb := t7.trans (tups_of sp)
    refine ite2 (fun cc => ?_) (fun cc => ?_)
    · obtain ⟨b, hb0, hbm, hgd⟩ := at_4 hk hlen cc
      obtain ⟨vb, hvb, gb⟩ := dta_get hY hb0
      have er : row4 (bodyT n (dp + 1)) wd ps = bodyT n (dp + 1) b := by unfold row4; rw [if_pos cc, hgd]
      rw [er] at l1 ⊢
      refine ⟨tyL hfb, ixT_at 3 (tb.sqT hTs) hvb ⟨by omega, vb, b, dp + 1, _, c, by rw [mul_next dp (by omega)], gb.keep tb, hB b hbm, hL b hbm, by omega, by omega, fun H5 l5 s5 nl5 el5 => ?_⟩⟩
      have hf5 := s5 _ _ hfb
      refine ext_ask hf5 el5 (by simp only [List.length_map, List.length_append, List.length_cons, List.length_nil]; omega) ?_
      exact ⟨same_at nf ((sm7.trans sp).trans s5) _, by rw [StrsL, upd_same]; simp⟩
    · have er : row4 (bodyT n (dp + 1)) wd ps = [] := by unfold row4; rw [if_neg cc]
      rw [er]
      exact ⟨sm7.trans sp, by rw [StrsL, hfb]; simp⟩
  · rintro σ H1 ⟨x3, rfl, sm, hf⟩
    walk_at "wp"
    refine q H1 f sm nf ?_
    rw [List.take_of_length_le (by omega)] at hf
    exact hf
theorem ok__law_rows (T : Top K mg w) : ∀ n : Nat, FnR P w K mg base CX0 (n + 8) (He.ga K "_law_rows") (spLawRows K n)
  | 0 => fun A outer s H us vs Q E _ _ _ h => by
    obtain ⟨_, _, _, _, _, _, _, h, _⟩ := h
    exact h.elim
  | n + 1 => st__law_rows T (ok__law_rows T n)
end
end K91
set_option Elab.async false
set_option linter.all false
set_option maxRecDepth 100000
set_option maxHeartbeats 8000000
namespace K91
open PySem PySem.Spec PyProof.Rows L2 _root_.SX
local macro_rules | `(tactic| walk_at "wp") => `(tactic| try simp only [cxK, cxw, cxK', cxw', start1, start2, start3, start4, start5, tRet, tRetN, tAsg, gName, gTup, gCons, gNil, gSub, tDrop, tNext, tIfS, tIf, tVar, tC, tAndV, tOrV, tNotV, tAnd, tOr, tNot, tTest, tB, tCB, tCons, tNil, tOp, tUn, rI0, rI, rU, rEq, rNe, rIn, tChain, tFld, sFld, tSl, tPart, tNoPart, tTup, tLst, tCallR, tMethR, tMethO, tBM, tBM0, tM0, tM1, tDGet, tDIn, tDNotIn, tDNewK, tCmp, t2I, tIsN, tNotN, tYes, tLc_eq, tFor_eq, tLenSetN, iItems, iVals, iKeys, iRng1, tLock, tLockE, tCallKw, tMakeKw, tMethKw, StX.tMakeR, tDc_eq, tLc2_eq, sFldAug, rMulS, tListVals, LiI.tListItems, LiI.rItemsL, RZ.iZipA, iStr, iTup, iList, iEnum, iEnumT, tDGet1, tDGet2, tDisp, tPairs, wipe, List.map_cons, List.map_nil,
  List.length_cons, List.length_nil, Nat.reduceAdd, Nat.reduceSub, List.replicate_succ, List.replicate_zero, if_true, if_false, Bool.not_true, Bool.not_false, Bool.false_eq_true, reduceIte,
  List.set_cons_zero, List.set_cons_succ, List.getElem?_cons_zero, List.getElem?_cons_succ, Option.some.injEq, exists_eq_left', exists_eq_left, V.int.injEq, V.str.injEq, V.bl.injEq, V.ref.injEq, V.ty.injEq, List.cons.injEq, and_true, true_and, and_assoc, exists_and_left, List.nil_append, List.cons_append, List.append_nil])
local macro_rules | `(tactic| walk_at "st") => `(tactic| (refine sq ?_; walk_at "wp"))
section
variable {P : Program} {w : World} {K : PySem.W.Frag} {mg : Str → Option Value} {base : Heap}
theorem SrcAt.upd {H : Hp} {s p : Addr} {o : HO} (h : SrcAt H s) (ne : p ≠ s) : SrcAt (L2.upd H p o) s := by
  obtain ⟨x, y, e, r⟩ := h
  exact ⟨x, y, by rw [upd_ne (Ne.symm ne)]; exact e, r⟩
theorem SrcAt.new {H : Hp} {s p : Addr} (h : SrcAt H s) (n : H p = none) : p ≠ s := by
  obtain ⟨x, y, e, _⟩ := h
  rintro rfl
  rw [n] at e
  cases e
theorem none_of {H H' : Hp} {p : Addr} (s : Same H H') (n : H' p = none) : H p = none := by
  cases e : H p with
  | none => rfl
  | some u => rw [s _ _ e] at n; cases n
theorem map_erase {α β : Type} (f : α → β) : ∀ (l : List α) (d : Nat), (l.map f).eraseIdx d = (l.eraseIdx d).map f
  | [], _ => rfl
  | _ :: _, 0 => rfl
  | a :: r, d + 1 => by
    simp only [List.map_cons, List.eraseIdx_cons_succ, map_erase f r d]
theorem perm_erase {α : Type} : ∀ (l : List α) (d : Nat) (h : d < l.length), (l[d] :: l.eraseIdx d).Perm l
  | a :: r, 0, _ => List.Perm.refl _
  | a :: r, d + 1, h => by
    simp only [List.getElem_cons_succ, List.eraseIdx_cons_succ]
    exact (List.Perm.swap a (r[d]'(by simpa using h)) _).trans (List.Perm.cons a (perm_erase r d (by simpa using h)))
theorem none_sx {s p : Addr} {H H1 : Hp} (X : SX s H H1) (_ : True) (n : H1 p = none) (ne : p ≠ s) : H p = none := by
  cases e : H p with
  | none => rfl
  | some u => rw [X.x _ _ ne e] at n; cases n
theorem seqIx {d n : Nat} (h : d < n) : seqIndex? (d : Int) n = some d := (ixN_seq (by unfold ixN; rw [if_pos (by omega), if_pos (by omega)]; rfl)).1
theorem bmK {X : Cx} {e : Expr} {T : String} {r : V → List V → Hp → VK → Prop} {to : TE} {t : TA} {K : PySem.W.Frag} (h : PE X e (tBM X.K T r to t)) (hK : X.K = K := by rfl) : PE X e (tBM K T r to t) := hK ▸ h
/-- the items in another order -/
def spShuf (K : PySem.W.Frag) : Sp := fun vs H Q _ => ∃ s l, ∃ xs : List Str, vs = [.ref s, .ref l] ∧ SrcAt H s ∧ H l = some (.lst (xs.map V.str)) ∧ xs.length ≤ 1000 ∧ ∀ H' r, ∀ ys : List Str, SX s H H' → SrcAt H' s → H r = none → H' r = some (.lst (ys.map V.str)) → ys.Perm xs → Q (.ref r) H'
theorem ok__law_shuffled (T : Top K mg w)  : FnR P w K mg base CX0 3 (He.ga K "_law_shuffled") (spShuf K) := by
  obtain ⟨fd, F⟩ := T.def_ d__law_shuffled (List.mem_of_getElem? (i := 55) rfl)
  refine mkR F sc__law_shuffled (fun _ _ _ _ _ _ us hl => match us, hl with | [_, _], _ => rfl) (fun vs H Q E h => ?_) (fun cdv A outer s H vs Q E hr h => ?_)
  · obtain ⟨s, l, xs, rfl, _⟩ := h; rfl
  obtain ⟨s, l, xs, rfl, hs, hl, hz, q⟩ := h
  have G__law_draw := ok__law_draw (P := P) (w := w) (base := base) T
  refine ⟨_, pss_cons (ps_set (i := 2) sc__law_shuffled.nd rfl (by first | exact Or.inl rfl | exact Or.inr rfl) (pe_callTy call_list_of (by rfl) (T.free "list" (by decide +kernel)) (by decide +kernel) (pa_cons (pv 1) pa_nil)))
    (pss_one (ps_ret (pe_lc (own := [("_law_turn", 3)]) (g := (gName 3)) (tt := tYes) rfl sc__law_shuffled.nd (pi_range1 (by rfl) (T.free "range" (by decide +kernel)) (pa_cons (pe_callB (r := fun xs H Q => ∃ x n, xs = [x] ∧ LenV K x H n ∧ Q (.int n) H) call_len (by rfl) (T.free "len" (by decide +kernel)) (by decide +kernel) (pa_cons (pv 1) pa_nil)) pa_nil)) (blkOk_by (own := [("_law_turn", 3)]) (N := ["_law_source_here", "_law_items", "_law_pool", "_law_turn"]) (sc := defScope s__law_shuffled) (by decide +kernel)) (fun _ _ _ _ _ => (pg_name (i := 3) sc__law_shuffled.nd rfl (by first | exact Or.inl rfl | exact Or.inr rfl))) (fun _ _ _ _ _ => pts_nil) (fun _ _ _ _ _ => (bmK (K := K) (pe_bm PySem.F.plainAttrs_list PySem.F.slot_list_pop PySem.F.type_list_pop mt_popAt (pv 2) (pa_cons (pcall G__law_draw hr (T.glo "_law_draw" (by decide +kernel)) (pa_cons (pv 0) (pa_cons (pe_callB (r := fun xs H Q => ∃ x n, xs = [x] ∧ LenV K x H n ∧ Q (.int n) H) call_len (by rfl) (T.free "len" (by decide +kernel)) (by decide +kernel) (pa_cons (pv 2) pa_nil)) pa_nil))) pa_nil))))))), ?_⟩
  have zl := line_big
  have nls := strs_ne_src hl hs
  refine sq ?_
  walk_at "wp"
  refine ⟨_, .inl (.of hl), fun pl npl => ?_⟩
  have s1 := same_new npl (.lst (xs.map V.str))
  have hs1 := hs.same s1
  have hl1 := s1 _ _ hl
  have epl : (upd H pl (.lst (xs.map V.str))) pl = some (.lst (xs.map V.str)) := upd_same
  have nps : pl ≠ s := by rintro rfl; obtain ⟨_, _, e, _⟩ := hs; rw [npl] at e; cases e
  generalize upd H pl (.lst (xs.map V.str)) = H1 at s1 hs1 hl1 epl ⊢
  refine ⟨_, .inl ⟨_, .of hl1, rfl⟩, by omega, by rw [List.length_map]; omega, ?_⟩
  rw [List.length_map, Int.toNat_natCast]
  refine lcGoX walk_range (fun D i acc H' => ∃ ys rem : List Str, acc = ys.map V.str ∧ SX s H H' ∧ SrcAt H' s ∧ H' pl = some (.lst (rem.map V.str)) ∧ (ys ++ rem).Perm xs ∧ ys.length = i) (fun D nD => ⟨[], xs, rfl, (SX.of s1).trans (.of (same_new nD _)), hs1.same (same_new nD _), same_new nD _ _ _ epl, List.Perm.refl _, rfl⟩) (fun _ _ _ _ _ => trivial) ?_ ?_
  · rintro D i x acc H2 H3 nD hi eD la ⟨ys, rem, rfl, X2, hs2, epl2, pm, ly⟩ ⟨eH, ex⟩
    subst eH
    subst ex
    have nDs := hs1.new nD
    have nDpl : pl ≠ D := by rintro rfl; rw [epl] at nD; cases nD
    have pl1 := pm.length_eq
    rw [List.length_append] at pl1
    walk_at "wp"
    refine ⟨tyL epl2, _, .inl ⟨_, .of epl2, rfl⟩, s, rem.length, by rw [List.length_map], hs2, by omega, Nat.lt_of_le_of_lt (Nat.log2_le_self _) (by omega), fun H4 d X4 hs4 hd => ?_⟩
    have epl4 := X4.x _ _ nps epl2
    have eD4 := X4.x _ _ nDs eD
    refine ⟨pl, _, (d : Nat), d, V.str rem[d], rfl, rfl, epl4, by omega, by omega, seqIx (by rw [List.length_map]; exact hd), by rw [List.getElem?_map, List.getElem?_eq_getElem hd]; rfl, ?_⟩
    have nDH : H D = none := none_of s1 nD
    have X24 := X2.trans X4
    rw [show (rem.map V.str).eraseIdx d = (rem.eraseIdx d).map V.str from map_erase _ _ _]
    have X5 : SX s H (upd H4 pl (.lst ((rem.eraseIdx d).map V.str))) := X24.at npl _
    have eD5 : (upd H4 pl (.lst ((rem.eraseIdx d).map V.str))) D = some (.lst (ys.map V.str)) := by rw [upd_ne (Ne.symm nDpl)]; exact eD4
    refine ⟨_, eD5, by rw [List.length_map]; omega, .mk la ⟨ys ++ [rem[d]], by rw [List.map_append]; rfl, X5.at nDH _, (hs4.upd nps).upd nDs, rem.eraseIdx d, by rw [upd_ne nDpl, upd_same], ?_, by rw [List.length_append]; simp; omega⟩⟩
    refine List.Perm.trans ?_ pm
    rw [List.append_assoc]
    exact List.Perm.append_left _ (perm_erase rem d hd)
  · rintro D acc H2 nD eD la ⟨ys, rem, rfl, X2, hs2, _, pm, ly⟩
    have pl1 := pm.length_eq
    rw [List.length_append] at pl1
    have : rem = [] := List.eq_nil_of_length_eq_zero (by omega)
    subst this
    rw [List.append_nil] at pm
    exact q H2 D ys X2 hs2 (none_of s1 nD) eD pm
end
end K91
set_option Elab.async false
set_option linter.all false
set_option maxRecDepth 100000
set_option maxHeartbeats 8000000
namespace K91
open PySem PySem.Spec PyProof.Rows L2 _root_.SX
local macro_rules | `(tactic| walk_at "wp") => `(tactic| try simp only [cxK, cxw, cxK', cxw', start1, start2, start3, start4, start5, tRet, tRetN, tAsg, gName, gTup, gCons, gNil, gSub, tDrop, tNext, tIfS, tIf, tVar, tC, tAndV, tOrV, tNotV, tAnd, tOr, tNot, tTest, tB, tCB, tCons, tNil, tOp, tUn, rI0, rI, rU, rEq, rNe, rIn, tChain, tFld, sFld, tSl, tPart, tNoPart, tTup, tLst, tCallR, tMethR, tMethO, tBM, tBM0, tM0, tM1, tDGet, tDIn, tDNotIn, tDNewK, tCmp, t2I, tIsN, tNotN, tYes, tLc_eq, tFor_eq, tLenSetN, iItems, iVals, iKeys, iRng1, tLock, tLockE, tCallKw, tMakeKw, tMethKw, StX.tMakeR, tDc_eq, tLc2_eq, sFldAug, rMulS, tListVals, LiI.tListItems, LiI.rItemsL, RZ.iZipA, iStr, iTup, iList, iEnum, iEnumT, tDGet1, tDGet2, tDisp, tPairs, wipe, List.map_cons, List.map_nil,
  List.length_cons, List.length_nil, Nat.reduceAdd, Nat.reduceSub, List.replicate_succ, List.replicate_zero, if_true, if_false, Bool.not_true, Bool.not_false, Bool.false_eq_true, reduceIte,
  List.set_cons_zero, List.set_cons_succ, List.getElem?_cons_zero, List.getElem?_cons_succ, Option.some.injEq, exists_eq_left', exists_eq_left, V.int.injEq, V.str.injEq, V.bl.injEq, V.ref.injEq, V.ty.injEq, List.cons.injEq, and_true, true_and, and_assoc, exists_and_left, List.nil_append, List.cons_append, List.append_nil])
local macro_rules | `(tactic| walk_at "st") => `(tactic| (refine sq ?_; walk_at "wp"))
section
variable {P : Program} {w : World} {K : PySem.W.Frag} {mg : Str → Option Value} {base : Heap}
theorem strK (a b : Str) : decide ((Sum.inr a : Key) = Sum.inr b) = decide (a = b) := by
  by_cases c : a = b
  · rw [c]; simp
  · simp [c]
theorem wk_names {n k c z : Addr} {l : Int} : valV (WorldK n k c z l) (.inr "names") = some (.ref n) := by
  unfold valV WorldK
  simp only [List.find?_cons, strK, show decide (("names" : Str) = "names") = true by decide +kernel, Option.map_some]
  rfl
theorem wk_keys {n k c z : Addr} {l : Int} : valV (WorldK n k c z l) (.inr "keys") = some (.ref k) := by
  unfold valV WorldK
  simp only [List.find?_cons, strK, show decide (("names" : Str) = "keys") = false by decide +kernel, show decide (("keys" : Str) = "keys") = true by decide +kernel, Option.map_some]
  rfl
theorem wk_crates {n k c z : Addr} {l : Int} : valV (WorldK n k c z l) (.inr "crates") = some (.ref c) := by
  unfold valV WorldK
  simp only [List.find?_cons, strK, show decide (("names" : Str) = "crates") = false by decide +kernel, show decide (("keys" : Str) = "crates") = false by decide +kernel, show decide (("crates" : Str) = "crates") = true by decide +kernel, Option.map_some]
  rfl
theorem wk_left {n k c z : Addr} {l : Int} : valV (WorldK n k c z l) (.inr "left") = some (.int l) := by
  unfold valV WorldK
  simp only [List.find?_cons, strK, show decide (("names" : Str) = "left") = false by decide +kernel, show decide (("keys" : Str) = "left") = false by decide +kernel, show decide (("crates" : Str) = "left") = false by decide +kernel, show decide (("left" : Str) = "left") = true by decide +kernel, Option.map_some]
  rfl
theorem wk_sizes {n k c z : Addr} {l : Int} : valV (WorldK n k c z l) (.inr "sizes") = some (.ref z) := by
  unfold valV WorldK
  simp only [List.find?_cons, strK, show decide (("names" : Str) = "sizes") = false by decide +kernel, show decide (("keys" : Str) = "sizes") = false by decide +kernel, show decide (("crates" : Str) = "sizes") = false by decide +kernel, show decide (("left" : Str) = "sizes") = false by decide +kernel, show decide (("sizes" : Str) = "sizes") = true by decide +kernel, Option.map_some]
  rfl
theorem wget {H : Hp} {wa n k c z : Addr} {l : Int} {f : Str} {v : V} (h : H wa = some (.dK (WorldK n k c z l))) (e : valV (WorldK n k c z l) (.inr f) = some v) : DGet H wa (.str f) (some v) := by
  rw [← e]
  exact .k (k := .inr f) h
/-- one of some words -/
def spChooseN : Sp := fun vs H Q _ => ∃ s l, ∃ ns : List Str, vs = [.ref s, .ref l] ∧ SrcAt H s ∧ H l = some (.lst (ns.map V.str)) ∧ 1 ≤ ns.length ∧ ns.length ≤ 1000 ∧ ∀ H' x, SX s H H' → SrcAt H' s → x ∈ ns → Q (.str x) H'
theorem ok_chooseN (T : Top K mg w) : FnR P w K mg base CX0 2 (He.ga K "_law_choose") spChooseN := (ok__law_choose (P := P) (w := w) (base := base) T).imp fun vs H Q E ⟨s, l, ns, e, hs, hl, h1, h2, q⟩ =>
  ⟨s, l, _, e, hs, hl, strs_ne_src hl hs, by rw [List.length_map]; exact h1, by rw [List.length_map]; exact h2, fun H' i x X hs' hx => by
    obtain ⟨y, ey, rfl⟩ := strs_get hx
    exact q H' y X hs' (List.mem_of_getElem? ey)⟩
/-- an expression of at most three levels -/
def spExprA (K : PySem.W.Frag) : Sp := fun vs H Q _ => ∃ s l, ∃ n : Nat, ∃ ns : List Str, vs = [.ref s, .ref l, .int (n : Nat)] ∧ SrcAt H s ∧ H l = some (.lst (ns.map V.str)) ∧ (n = 2 ∨ n = 3) ∧ 1 ≤ ns.length ∧ ns.length ≤ 100 ∧ (∀ x ∈ ns, nameB x = true) ∧ ∀ H' v d, SX s H H' → SrcAt H' s → Dt K H' v d → nestedB 3 d = true → Q v H'
theorem ok_exprA (T : Top K mg w) : FnR P w K mg base CX0 6 (He.ga K "_law_expression") (spExprA K) := fun A outer st H us vs Q E hr e0 r h => by
  obtain ⟨s, l, n, ns, e, hs, hl, hn, h1, h2, h3, q⟩ := h
  rcases hn with rfl | rfl
  · exact (ok__law_expression (P := P) (w := w) (base := base) T 2).mono (by omega) A outer st H us vs Q E hr e0 r ⟨s, l, ns, e, hs, hl, by omega, h1, h2, h3, fun H' v d X hs' g hd => q H' v d X hs' g (nested_mono (by omega) hd)⟩
  · exact ok__law_expression (P := P) (w := w) (base := base) T 3 A outer st H us vs Q E hr e0 r ⟨s, l, ns, e, hs, hl, by omega, h1, h2, h3, q⟩
theorem dt_new {H : Hp} {t : Addr} {vs : List V} {ds : List PyData} (nt : H t = none) (h : DtAll K H vs ds) : Dt K (upd H t (.tup vs)) (.ref t) (.tuple ds) := .tup (.inl (.inl upd_same)) (h.keep (tups_of (same_new nt _)))
theorem dtN {H : Hp} {x : Str} (h : nameB x = true) : Dt K H (.str x) (.str x) := .str x (by have := name_len h; omega)
theorem dtW {H : Hp} {x : Str} {ks : List Str} (h : shapeOf x = some ks) : Dt K H (.str x) (.str x) := .str x (by have := word_len h; omega)
theorem uses_read {c : Cx91} {l : Nat} {a : PyData} {b : Str} (h : b ∈ c.boxes) : usesOk c l "read" [a, .str b] :=
  ⟨fun e => absurd e (by decide +kernel), fun e => absurd e (by decide +kernel), fun e => absurd e (by decide +kernel), fun _ => ⟨a, b, rfl, h⟩, fun e => absurd e (by decide +kernel)⟩
theorem uses_write {c : Cx91} {l : Nat} {a : PyData} {b : Str} (h : b ∈ c.boxes) : usesOk c l "write" [.str b, a] :=
  ⟨fun e => absurd e (by decide +kernel), fun e => absurd e (by decide +kernel), fun _ => ⟨b, a, rfl, h⟩, fun e => absurd e (by decide +kernel), fun e => absurd e (by decide +kernel)⟩
def tailW : List Str := ["set", "return", "raise", "send", "receive", "meet", "read", "write"]
/-- a statement without bodies -/
def spTail (K : PySem.W.Frag) : Sp := fun vs H Q _ => ∃ s wa W left wd, vs = [.ref s, .ref wa, .str wd] ∧ SrcAt H s ∧ WorldAt H wa W left ∧ WOk W ∧ wd ∈ tailW ∧ ∀ H' v d, SX s H H' → SrcAt H' s → Dt K H' v d → lawL (cxW W) d → Q v H'
theorem ok__law_tail (T : Top K mg w)  : FnR P w K mg base CX0 7 (He.ga K "_law_tail") (spTail K) := by
  obtain ⟨fd, F⟩ := T.def_ d__law_tail (List.mem_of_getElem? (i := 60) rfl)
  refine mkR F sc__law_tail (fun _ _ _ _ _ _ us hl => match us, hl with | [_, _, _], _ => rfl) (fun vs H Q E h => ?_) (fun cdv A outer s H vs Q E hr h => ?_)
  · obtain ⟨s, wa, W, left, wd, rfl, _⟩ := h; rfl
  obtain ⟨s, wa, W, left, wd, rfl, hs, hw, ok, hwd, q⟩ := h
  have G__law_choose := ok_chooseN (P := P) (w := w) (base := base) T
  have G__law_expression := ok_exprA (P := P) (w := w) (base := base) T
  refine ⟨_, pss_cons (ps_set (i := 3) sc__law_tail.nd rfl (by first | exact Or.inl rfl | exact Or.inr rfl) (pe_dget (hu_of hr) (pv 1) pe_str (fun _ _ => rfl)))
    (pss_cons (ps_set (i := 4) sc__law_tail.nd rfl (by first | exact Or.inl rfl | exact Or.inr rfl) (pcall G__law_choose hr (T.glo "_law_choose" (by decide +kernel)) (pa_cons (pv 0) (pa_cons (pv 3) pa_nil))))
    (pss_cons (ps_if (pt_cmpR (r := rIn K false) op_in_seq (pv 2) (pe_tup (pa_cons pe_str (pa_cons pe_str (pa_cons pe_str (pa_cons pe_str pa_nil))))) rfl) (pss_cons (ps_set (i := 5) sc__law_tail.nd rfl (by first | exact Or.inl rfl | exact Or.inr rfl) (pcall G__law_expression hr (T.glo "_law_expression" (by decide +kernel)) (pa_cons (pv 0) (pa_cons (pv 3) (pa_cons pe_int pa_nil)))))
    (pss_cons (ps_if (pt_cmpR (op_eq) (pv 2) pe_str (nomark _)) (pss_one (ps_ret (pe_tup (pa_cons (pv 2) (pa_cons (pcall G__law_choose hr (T.glo "_law_choose" (by decide +kernel)) (pa_cons (pv 0) (pa_cons (pe_dget (hu_of hr) (pv 1) pe_str (fun _ _ => rfl)) pa_nil))) (pa_cons (pv 5) pa_nil)))))) pss_nil)
    (pss_one (ps_ret (pe_ifExp (pt_cmpR (op_eq) (pv 2) pe_str (nomark _)) (pe_tup (pa_cons (pv 2) (pa_cons (pv 4) (pa_cons (pv 5) pa_nil)))) (pe_tup (pa_cons (pv 2) (pa_cons (pv 5) pa_nil)))))))) pss_nil)
    (pss_cons (ps_if (pt_cmpR (op_eq) (pv 2) pe_str (nomark _)) (pss_one (ps_ret (pe_tup (pa_cons (pv 2) (pa_cons (pv 4) (pa_cons (pcall G__law_choose hr (T.glo "_law_choose" (by decide +kernel)) (pa_cons (pv 0) (pa_cons (pv 3) pa_nil))) (pa_cons (pcall G__law_choose hr (T.glo "_law_choose" (by decide +kernel)) (pa_cons (pv 0) (pa_cons (pe_dget (hu_of hr) (pv 1) pe_str (fun _ _ => rfl)) pa_nil))) pa_nil))))))) pss_nil)
    (pss_cons (ps_if (pt_cmpR (op_eq) (pv 2) pe_str (nomark _)) (pss_one (ps_ret (pe_tup (pa_cons (pv 2) (pa_cons (pv 4) (pa_cons (pcall G__law_choose hr (T.glo "_law_choose" (by decide +kernel)) (pa_cons (pv 0) (pa_cons (pv 3) pa_nil))) (pa_cons (pcall G__law_choose hr (T.glo "_law_choose" (by decide +kernel)) (pa_cons (pv 0) (pa_cons (pv 3) pa_nil))) (pa_cons (pcall G__law_expression hr (T.glo "_law_expression" (by decide +kernel)) (pa_cons (pv 0) (pa_cons (pv 3) (pa_cons pe_int pa_nil)))) pa_nil)))))))) pss_nil)
    (pss_cons (ps_set (i := 6) sc__law_tail.nd rfl (by first | exact Or.inl rfl | exact Or.inr rfl) (pe_dget (hu_of hr) (pv 1) pe_str (fun _ _ => rfl)))
    (pss_cutK (ps_if (PW.pt (pw_and (pt_cmpR (r := rIn K false) op_in_seq (pv 2) (pe_tup (pa_cons pe_str (pa_cons pe_str pa_nil))) rfl) (pw_and1 (pt_cmpR (op_neD hr.units) (pv 6) (pe_lst pa_nil) (nomark _))))) (pss_cons (ps_set (i := 7) sc__law_tail.nd rfl (by first | exact Or.inl rfl | exact Or.inr rfl) (pcall G__law_choose hr (T.glo "_law_choose" (by decide +kernel)) (pa_cons (pv 0) (pa_cons (pv 6) pa_nil))))
    (pss_one (ps_ret (pe_ifExp (pt_cmpR (op_eq) (pv 2) pe_str (nomark _)) (pe_tup (pa_cons (pv 2) (pa_cons (pv 4) (pa_cons (pv 7) pa_nil)))) (pe_tup (pa_cons (pv 2) (pa_cons (pv 7) (pa_cons (pcall G__law_expression hr (T.glo "_law_expression" (by decide +kernel)) (pa_cons (pv 0) (pa_cons (pv 3) (pa_cons pe_int pa_nil)))) pa_nil)))))))) pss_nil)
    (pss_one (ps_ret (pe_tup (pa_cons pe_str pa_nil)))))))))), ?_⟩
  have zl := line_big
  have hw0 := hw
  obtain ⟨n, k, c, z, od, ew, en, ek, ec, ez⟩ := hw
  refine sq ?_
  walk_at "wp"
  refine ⟨_, wget ew wk_names, ?_⟩
  refine sq ?_
  walk_at "wp"
  refine ⟨s, n, _, rfl, hs, en, by have := ok.n4; omega, by have := ok.n4; omega, fun H1 x1 X1 hs1 hx1 => ?_⟩
  have hw1 := hw0.sx hs X1
  have nx1 := ok.names x1 hx1
  refine sq ?_
  walk_at "wp"
  refine ⟨by omega, fun p np => ?_⟩
  have s2 := same_new np (.tup [V.str "set", V.str "return", V.str "raise", V.str "send"])
  have hw2 := hw1.same s2
  have hs2 := hs1.same s2
  have X2 := X1.trans (.of s2)
  have hT2 : SqT K (upd H1 p (.tup [V.str "set", V.str "return", V.str "raise", V.str "send"])) p ((["set", "return", "raise", "send"] : List Str).map V.str) := .inl (.inl upd_same)
  refine ⟨_, .inr hT2, rfl, all_flat _, ?_⟩
  rw [in_strs]
  generalize upd H1 p (.tup [V.str "set", V.str "return", V.str "raise", V.str "send"]) = H2 at s2 hw2 hs2 X2 ⊢
  obtain ⟨n', k', c', z', od', ew', en', ek', ec', ez'⟩ := id hw2
  have g2 := X2.x _ _ (hw0.ne hs) ew
  rw [ew'] at g2
  cases g2
  have hexp : ∀ H3, SX s H H3 → SrcAt H3 s → H3 n = some (.lst (W.names.map V.str)) := fun H3 X _ => X.x _ _ (strs_ne_src en hs) en
  refine ite2 (fun hc => ?_) (fun hc => ?_)
  · refine sq ?_
    walk_at "wp"
    refine ⟨s, n, 3, _, rfl, hs2, en', .inr rfl, by have := ok.n4; omega, by have := ok.n4; omega, ok.names, fun H3 v3 d3 X3 hs3 g3 h3 => ?_⟩
    have X23 := X2.trans X3
    have hw3 := hw2.sx hs2 X3
    obtain ⟨n3, k3, c3, z3, od3, ew3, en3, ek3, ec3, ez3⟩ := id hw3
    have g4 := X3.x _ _ (hw2.ne hs2) ew'
    rw [ew3] at g4
    cases g4
    refine sq ?_
    walk_at "wp"
    refine ⟨rfl, ite2 (fun e => ?_) (fun e => ⟨rfl, ite2 (fun e2 => ⟨by omega, fun t nt => ?_⟩) (fun e2 => ⟨by omega, fun t nt => ?_⟩)⟩)⟩
    · obtain rfl : wd = "send" := of_decide_eq_true e
      refine ⟨_, wget ew3 wk_keys, s, k, _, rfl, hs3, ek3, by have := ok.k2; omega, by have := ok.k2; omega, fun H4 x4 X4 hs4 hx4 => ⟨by omega, fun t nt => ?_⟩⟩
      have nx4 := ok.keys x4 hx4
      exact q _ _ _ ((X23.trans X4).trans (.of (same_new nt _))) (hs4.same (same_new nt _)) (dt_new nt (.cons (dtW (ks := ["name", "expression"]) (by decide +kernel)) (.cons (dtN nx4) (.cons (g3.keep X4.t) .nil))))
        (lawL_2 (k1 := "name") (k2 := "expression") (by decide +kernel) (by decide) (by decide) (p3_name nx4) (p3_expr h3) fun l => uses_free (by decide +kernel))
    · obtain rfl : wd = "set" := of_decide_eq_true e2
      exact q _ _ _ (X23.trans (.of (same_new nt _))) (hs3.same (same_new nt _)) (dt_new nt (.cons (dtW (ks := ["name", "expression"]) (by decide +kernel)) (.cons (dtN nx1) (.cons g3 .nil))))
        (lawL_2 (k1 := "name") (k2 := "expression") (by decide +kernel) (by decide) (by decide) (p3_name nx1) (p3_expr h3) fun l => uses_free (by decide +kernel))
    · have hc2 : wd = "return" ∨ wd = "raise" := by
        have e' : wd ≠ "send" := fun z => by rw [decide_eq_true z] at e; exact e rfl
        have e2' : wd ≠ "set" := fun z => by rw [decide_eq_true z] at e2; exact e2 rfl
        have hm := List.contains_iff_mem.mp hc
        simp only [List.mem_cons, List.not_mem_nil, or_false] at hm
        rcases hm with h | h | h | h
        · exact absurd h e2'
        · exact .inl h
        · exact .inr h
        · exact absurd h e'
      have hsh : shapeOf wd = some (["expression"] : List Str) ∧ (wd ≠ "call" ∧ wd ≠ "fork" ∧ wd ≠ "write" ∧ wd ≠ "read" ∧ wd ≠ "break" ∧ wd ≠ "continue") := by
        rcases hc2 with rfl | rfl <;> decide +kernel
      exact q _ _ _ (X23.trans (.of (same_new nt _))) (hs3.same (same_new nt _)) (dt_new nt (.cons (dtW hsh.1) (.cons g3 .nil))) (lawL_1 (k := "expression") hsh.1 (by decide) (p3_expr h3) fun l => uses_free hsh.2)
  refine sq ?_
  walk_at "wp"
  refine ⟨rfl, ite2 (fun e => ?_) (fun e => ?_)⟩
  · obtain rfl : wd = "receive" := of_decide_eq_true e
    refine ⟨s, n, _, rfl, hs2, en', by have := ok.n4; omega, by have := ok.n4; omega, fun H3 x3 X3 hs3 hx3 => ?_⟩
    have hw3 := hw2.sx hs2 X3
    obtain ⟨n3, k3, c3, z3, od3, ew3, en3, ek3, ec3, ez3⟩ := id hw3
    have g4 := X3.x _ _ (hw2.ne hs2) ew'
    rw [ew3] at g4
    cases g4
    refine ⟨_, wget ew3 wk_keys, s, k, _, rfl, hs3, ek3, by have := ok.k2; omega, by have := ok.k2; omega, fun H4 x4 X4 hs4 hx4 => ⟨by omega, fun t nt => ?_⟩⟩
    have nx3 := ok.names x3 hx3
    have nx4 := ok.keys x4 hx4
    exact q _ _ _ (((X2.trans X3).trans X4).trans (.of (same_new nt _))) (hs4.same (same_new nt _)) (dt_new nt (.cons (dtW (ks := ["name", "name", "name"]) (by decide +kernel)) (.cons (dtN nx1) (.cons (dtN nx3) (.cons (dtN nx4) .nil)))))
      (lawL_3 (k1 := "name") (k2 := "name") (k3 := "name") (by decide +kernel) (by decide) (by decide) (by decide) (p3_name nx1) (p3_name nx3) (p3_name nx4) fun l => uses_free (by decide +kernel))
  refine sq ?_
  walk_at "wp"
  refine ⟨rfl, ite2 (fun e2 => ?_) (fun e2 => ?_)⟩
  · obtain rfl : wd = "meet" := of_decide_eq_true e2
    refine ⟨s, n, _, rfl, hs2, en', by have := ok.n4; omega, by have := ok.n4; omega, fun H3 x3 X3 hs3 hx3 => ?_⟩
    have en3 := X3.x _ _ (strs_ne_src en' hs2) en'
    refine ⟨s, n, _, rfl, hs3, en3, by have := ok.n4; omega, by have := ok.n4; omega, fun H4 x4 X4 hs4 hx4 => ?_⟩
    have en4 := X4.x _ _ (strs_ne_src en3 hs3) en3
    refine ⟨s, n, 2, _, rfl, hs4, en4, .inl rfl, by have := ok.n4; omega, by have := ok.n4; omega, ok.names, fun H5 v5 d5 X5 hs5 g5 h5 => ⟨by omega, fun t nt => ?_⟩⟩
    have nx3 := ok.names x3 hx3
    have nx4 := ok.names x4 hx4
    exact q _ _ _ ((((X2.trans X3).trans X4).trans X5).trans (.of (same_new nt _))) (hs5.same (same_new nt _)) (dt_new nt (.cons (dtW (ks := ["name", "name", "name", "expression"]) (by decide +kernel)) (.cons (dtN nx1) (.cons (dtN nx3) (.cons (dtN nx4) (.cons g5 .nil))))))
      (lawL_4 (k1 := "name") (k2 := "name") (k3 := "name") (k4 := "expression") (by decide +kernel) (by decide) (by decide) (by decide) (by decide) (p3_name nx1) (p3_name nx3) (p3_name nx4) (p3_expr h5) fun l => uses_free (by decide +kernel))
  refine sq ?_
  walk_at "wp"
  refine ⟨_, wget ew' wk_crates, ?_⟩
  refine cutI (fun σ H' => SX s H H' ∧ SrcAt H' s) ?_ ?_
  · walk_at "wp"
    refine ⟨by omega, fun p3 np3 => ?_⟩
    have s3 := same_new np3 (.tup [V.str "read", V.str "write"])
    have hT3 : SqT K (upd H2 p3 (.tup [V.str "read", V.str "write"])) p3 ((["read", "write"] : List Str).map V.str) := .inl (.inl upd_same)
    refine ⟨_, .inr hT3, rfl, all_flat _, ?_⟩
    rw [in_strs]
    have X3 := X2.trans (.of s3)
    have hs3 := hs2.same s3
    have ec3 := s3 _ _ ec'
    have en3 := s3 _ _ en'
    generalize upd H2 p3 (.tup [V.str "read", V.str "write"]) = H3 at X3 hs3 ec3 en3 ⊢
    refine ite2 (fun hrw => ?_) (fun _ => ⟨X3, hs3⟩)
    refine ⟨Nat.zero_le _, fun p4 np4 => ?_⟩
    have s4 := same_new np4 (.lst [])
    refine ⟨.list (W.crates.map .str), .list [], .lst (.of (s4 _ _ ec3)) (dt_strs ok.crates).dp, .lst (.of upd_same) .nil, strs_shaped ok.crates, by decide +kernel, ?_⟩
    rw [eqv_nil]
    have X4 := X3.trans (.of s4)
    have hs4 := hs3.same s4
    have ec4 := s4 _ _ ec3
    have en4 := s4 _ _ en3
    generalize upd H3 p4 (.lst []) = H4 at X4 hs4 ec4 en4 ⊢
    refine ⟨_, rfl, ite2 (fun hne => ?_) (fun _ => ⟨X4, hs4⟩)⟩
    have hc1 : 1 ≤ W.crates.length := by
      cases e : W.crates with
      | nil => rw [e] at hne; cases hne
      | cons a r => simp
    refine sq ?_
    walk_at "wp"
    refine ⟨s, c, _, rfl, hs4, ec4, hc1, by have := ok.c3; omega, fun H5 x5 X5 hs5 hx5 => ⟨rfl, ite2 (fun e3 => ⟨by omega, fun t nt => ?_⟩) (fun e3 => ?_)⟩⟩
    · obtain rfl : wd = "read" := of_decide_eq_true e3
      have nx5 := ok.crates x5 hx5
      exact q _ _ _ ((X4.trans X5).trans (.of (same_new nt _))) (hs5.same (same_new nt _)) (dt_new nt (.cons (dtW (ks := ["name", "name"]) (by decide +kernel)) (.cons (dtN nx1) (.cons (dtN nx5) .nil))))
        (lawL_2 (k1 := "name") (k2 := "name") (by decide +kernel) (by decide) (by decide) (p3_name nx1) (p3_name nx5) fun l => uses_read hx5)
    · have hw' : wd = "write" := by
        have hm := List.contains_iff_mem.mp hrw
        simp only [List.mem_cons, List.not_mem_nil, or_false] at hm
        rcases hm with h | h
        · exact absurd (decide_eq_true h) e3
        · exact h
      subst hw'
      have nx5 := ok.crates x5 hx5
      have en5 := X5.x _ _ (strs_ne_src en4 hs4) en4
      refine ⟨s, n, 2, _, rfl, hs5, en5, .inl rfl, by have := ok.n4; omega, by have := ok.n4; omega, ok.names, fun H6 v6 d6 X6 hs6 g6 h6 => ⟨by omega, fun t nt => ?_⟩⟩
      exact q _ _ _ (((X4.trans X5).trans X6).trans (.of (same_new nt _))) (hs6.same (same_new nt _)) (dt_new nt (.cons (dtW (ks := ["name", "expression"]) (by decide +kernel)) (.cons (dtN nx5) (.cons g6 .nil))))
        (lawL_2 (k1 := "name") (k2 := "expression") (by decide +kernel) (by decide) (by decide) (p3_name nx5) (p3_expr h6) fun l => uses_write hx5)
  · rintro σ H3 ⟨X3, hs3⟩
    walk_at "wp"
    refine ⟨by omega, fun t nt => q _ _ _ (X3.trans (.of (same_new nt _))) (hs3.same (same_new nt _)) (dt_new nt (.cons (dtW (ks := []) (by decide +kernel)) .nil)) (lawL_pass _)⟩
end
end K91
set_option Elab.async false
set_option linter.all false
set_option maxRecDepth 100000
set_option maxHeartbeats 8000000
namespace K91
open PySem PySem.Spec PyProof.Rows L2 _root_.SX
local macro_rules | `(tactic| walk_at "wp") => `(tactic| try simp only [cxK, cxw, cxK', cxw', start1, start2, start3, start4, start5, tRet, tRetN, tAsg, gName, gTup, gCons, gNil, gSub, tDrop, tNext, tIfS, tIf, tVar, tC, tAndV, tOrV, tNotV, tAnd, tOr, tNot, tTest, tB, tCB, tCons, tNil, tOp, tUn, rI0, rI, rU, rEq, rNe, rIn, tChain, tFld, sFld, tSl, tPart, tNoPart, tTup, tLst, tCallR, tMethR, tMethO, tBM, tBM0, tM0, tM1, tDGet, tDIn, tDNotIn, tDNewK, tCmp, t2I, tIsN, tNotN, tYes, tLc_eq, tFor_eq, tLenSetN, iItems, iVals, iKeys, iRng1, tLock, tLockE, tCallKw, tMakeKw, tMethKw, StX.tMakeR, tDc_eq, tLc2_eq, sFldAug, rMulS, tListVals, LiI.tListItems, LiI.rItemsL, RZ.iZipA, iStr, iTup, iList, iEnum, iEnumT, tDGet1, tDGet2, tDisp, tPairs, wipe, List.map_cons, List.map_nil,
  List.length_cons, List.length_nil, Nat.reduceAdd, Nat.reduceSub, List.replicate_succ, List.replicate_zero, if_true, if_false, Bool.not_true, Bool.not_false, Bool.false_eq_true, reduceIte,
  List.set_cons_zero, List.set_cons_succ, List.getElem?_cons_zero, List.getElem?_cons_succ, Option.some.injEq, exists_eq_left', exists_eq_left, V.int.injEq, V.str.injEq, V.bl.injEq, V.ref.injEq, V.ty.injEq, List.cons.injEq, and_true, true_and, and_assoc, exists_and_left, List.nil_append, List.cons_append, List.append_nil])
local macro_rules | `(tactic| walk_at "st") => `(tactic| (refine sq ?_; walk_at "wp"))
section
variable {P : Program} {w : World} {K : PySem.W.Frag} {mg : Str → Option Value} {base : Heap}
theorem sget {H : Hp} {z : Addr} {od : Obj} {l : List (Str × Nat)} {f : Str} {m : Nat} (h : H z = some (.frz od (.dK (sizesK l)))) (e : l.lookup f = some m) : DGet H z (.str f) (some (.int (m : Nat))) := by
  have : valV (sizesK l) (.inr f) = some (V.int (m : Nat)) := by rw [sizes_get, e]; rfl
  rw [← this]
  exact .inl ⟨_, .inr f, .inr ⟨od, h⟩, rfl, rfl⟩
theorem lookup_nd : ∀ {l : List (Str × Nat)} {q : Str × Nat}, (l.map Prod.fst).Nodup → q ∈ l → l.lookup q.1 = some q.2
  | [], _, _, h => by cases h
  | a :: r, q, hn, h => by
    obtain ⟨h1, h2⟩ := List.nodup_cons.mp hn
    rcases List.mem_cons.mp h with rfl | h
    · show (match q.1 == q.1 with | true => some q.2 | false => r.lookup q.1) = some q.2
      rw [show (q.1 == q.1) = true from beq_self_eq_true _]
    · have ne : q.1 ≠ a.1 := by rintro e; exact h1 (e ▸ List.mem_map_of_mem h)
      show (match q.1 == a.1 with | true => some a.2 | false => r.lookup q.1) = some q.2
      rw [show (q.1 == a.1) = false from beq_eq_false_iff_ne.mpr ne]
      exact lookup_nd h2 h
def selB (wd : Str) (q : Str × Nat) : Bool := decide (wd = "call") || decide (0 < q.2)
theorem sizesK_at {l : List (Str × Nat)} {i : Nat} {k : Key} {v : V} (h : (sizesK l)[i]? = some (k, v)) : ∃ q, l[i]? = some q ∧ k = .inr q.1 ∧ v = .int (q.2 : Nat) := by
  unfold sizesK at h
  rw [List.getElem?_map] at h
  obtain ⟨q, e, z⟩ := Option.map_eq_some_iff.mp h
  cases z
  exact ⟨q, e, rfl, rfl⟩
/-- expressions so far -/
def TermsI (K : PySem.W.Frag) (H0 : Hp) (s : Addr) (i : Nat) (acc : List V) (H' : Hp) : Prop := ∃ ds, DtAll K H' acc ds ∧ ds.length = i ∧ (∀ e ∈ ds, nestedB 3 e = true) ∧ SX s H0 H' ∧ SrcAt H' s
theorem uses_callL {c : Cx91} {l : Nat} {a : PyData} {f : Str} {es : List PyData} (h : c.sizes.lookup f = some es.length) : usesOk c l "call" [a, .str f, .tuple es] :=
  ⟨fun _ => ⟨a, f, es, rfl, h⟩, fun e => absurd e (by decide +kernel), fun e => absurd e (by decide +kernel), fun e => absurd e (by decide +kernel), fun e => absurd e (by decide +kernel)⟩
theorem uses_forkL {c : Cx91} {l : Nat} {a : PyData} {f : Str} {es : List PyData} (h : c.sizes.lookup f = some (es.length + 1)) : usesOk c l "fork" [a, .str f, .tuple es] :=
  ⟨fun e => absurd e (by decide +kernel), fun _ => ⟨a, f, es, rfl, h⟩, fun e => absurd e (by decide +kernel), fun e => absurd e (by decide +kernel), fun e => absurd e (by decide +kernel)⟩
/-- a call or a fork -/
def spEnter (K : PySem.W.Frag) : Sp := fun vs H Q _ => ∃ s wa W left wd, vs = [.ref s, .ref wa, .str wd] ∧ SrcAt H s ∧ WorldAt H wa W left ∧ WOk W ∧ (wd = "call" ∨ wd = "fork") ∧ ∀ H' v d, SX s H H' → SrcAt H' s → Dt K H' v d → lawL (cxW W) d → Q v H'
theorem ok__law_entered (T : Top K mg w)  : FnR P w K mg base CX0 7 (He.ga K "_law_entered") (spEnter K) := by
  obtain ⟨fd, F⟩ := T.def_ d__law_entered (List.mem_of_getElem? (i := 61) rfl)
  refine mkR F sc__law_entered (fun _ _ _ _ _ _ us hl => match us, hl with | [_, _, _], _ => rfl) (fun vs H Q E h => ?_) (fun cdv A outer s H vs Q E hr h => ?_)
  · obtain ⟨s, wa, W, left, wd, rfl, _⟩ := h; rfl
  obtain ⟨s, wa, W, left, wd, rfl, hs, hw, ok, hwd, q⟩ := h
  have G__law_choose := ok_chooseN (P := P) (w := w) (base := base) T
  have G__law_expression := ok_exprA (P := P) (w := w) (base := base) T
  refine ⟨_, pss_cons (ps_setLc (i := 3) (own := [("_law_goal", 4)]) (g := (gName 4)) rfl sc__law_entered.nd rfl rfl (sw_true rfl rfl rfl (by decide +kernel)) (pi_keys (pe_dget (hu_of hr) (pv 1) pe_str (fun _ _ => rfl))) (blkOk_by (own := [("_law_goal", 4)]) (N := ["_law_source_here", "_law_world_here", "_law_word", "_law_some", "_law_goal", "_law_many", "_law_terms", "_law_turn"]) (sc := defScope s__law_entered) (by decide +kernel)) (fun _ _ _ _ _ => (pg_name (i := 4) sc__law_entered.nd rfl (by first | exact Or.inl rfl | exact Or.inr rfl))) (fun _ _ _ _ _ => (pts_one (PW.pt (pw_or (pt_cmpR (op_eq) (pv 2) pe_str (nomark _)) (pw_or1 (pt_cmpR (op_gt) (pe_dget (hu_of hr) (pe_dget (hu_of hr) (pv 1) pe_str (fun _ _ => rfl)) (pv 4) (fun _ _ => rfl)) pe_int (nomark _))))))) (fun _ _ _ _ _ => (pv 4)))
    (pss_cons (ps_if (pt_cmpR (op_eqD hr.units) (pv 3) (pe_lst pa_nil) (nomark _)) (pss_one (ps_ret (pe_tup (pa_cons pe_str pa_nil)))) pss_nil)
    (pss_cons (ps_set (i := 4) sc__law_entered.nd rfl (by first | exact Or.inl rfl | exact Or.inr rfl) (pcall G__law_choose hr (T.glo "_law_choose" (by decide +kernel)) (pa_cons (pv 0) (pa_cons (pv 3) pa_nil))))
    (pss_cons (ps_set (i := 5) sc__law_entered.nd rfl (by first | exact Or.inl rfl | exact Or.inr rfl) (pe_op op_sub (pe_dget (hu_of hr) (pe_dget (hu_of hr) (pv 1) pe_str (fun _ _ => rfl)) (pv 4) (fun _ _ => rfl)) (pe_callTy call_int1 (by rfl) (T.free "int" (by decide +kernel)) (by decide +kernel) (pa_cons (pe_cmpR (op_eq) (pv 2) pe_str (nomark _)) pa_nil))))
    (pss_cons (ps_set (i := 6) sc__law_entered.nd rfl (by first | exact Or.inl rfl | exact Or.inr rfl) (pe_callTy call_tuple_of (by rfl) (T.free "tuple" (by decide +kernel)) (by decide +kernel) (pa_cons (pe_lc (own := [("_law_turn", 7)]) (g := (gName 7)) (tt := tYes) rfl sc__law_entered.nd (pi_range1 (by rfl) (T.free "range" (by decide +kernel)) (pa_cons (pv 5) pa_nil)) (blkOk_by (own := [("_law_turn", 7)]) (N := ["_law_source_here", "_law_world_here", "_law_word", "_law_some", "_law_goal", "_law_many", "_law_terms", "_law_turn"]) (sc := defScope s__law_entered) (by decide +kernel)) (fun _ _ _ _ _ => (pg_name (i := 7) sc__law_entered.nd rfl (by first | exact Or.inl rfl | exact Or.inr rfl))) (fun _ _ _ _ _ => pts_nil) (fun _ _ _ _ _ => (pcall G__law_expression hr (T.glo "_law_expression" (by decide +kernel)) (pa_cons (pv 0) (pa_cons (pe_dget (hu_of hr) (pv 1) pe_str (fun _ _ => rfl)) (pa_cons pe_int pa_nil)))))) pa_nil)))
    (pss_cons (ps_if (pt_cmpR (op_eq) (pv 2) pe_str (nomark _)) (pss_one (ps_ret (pe_tup (pa_cons (pv 2) (pa_cons (pcall G__law_choose hr (T.glo "_law_choose" (by decide +kernel)) (pa_cons (pv 0) (pa_cons (pe_dget (hu_of hr) (pv 1) pe_str (fun _ _ => rfl)) pa_nil))) (pa_cons (pv 4) (pa_cons (pv 6) pa_nil))))))) pss_nil)
    (pss_one (ps_ret (pe_tup (pa_cons (pv 2) (pa_cons (pcall G__law_expression hr (T.glo "_law_expression" (by decide +kernel)) (pa_cons (pv 0) (pa_cons (pe_dget (hu_of hr) (pv 1) pe_str (fun _ _ => rfl)) (pa_cons pe_int pa_nil)))) (pa_cons (pv 4) (pa_cons (pv 6) pa_nil)))))))))))), ?_⟩
  have zl := line_big
  have hw0 := hw
  obtain ⟨n, k, c, z, od, ew, en, ek, ec, ez⟩ := hw
  refine sq ?_
  walk_at "wp"
  refine ⟨_, wget ew wk_sizes, z, rfl, od, .inl ⟨_, ez, ?_⟩⟩
  refine lcGo walk_keys (fun i acc _ => acc = (((W.sizes.take i).filter (selB wd)).map Prod.fst).map V.str) (fun _ _ => rfl) (fun H' s' => s' _ _ ez) ?_ ?_
  · rintro D i x acc H1 H2 nD hi s1 eD la ra ⟨eH, k', v', ek', ex⟩
    subst eH
    obtain ⟨q', eq', rfl, rfl⟩ := sizesK_at ek'
    subst ex
    have estep : ((W.sizes.take (i + 1)).filter (selB wd)) = ((W.sizes.take i).filter (selB wd)) ++ (if selB wd q' = true then [q'] else []) := by
      rw [List.take_add_one, eq', List.filter_append, Option.toList_some, List.filter_cons, List.filter_nil]
    have hz4 := ok.z4
    rw [show (sizesK W.sizes).length = W.sizes.length from by unfold sizesK; rw [List.length_map]] at hi
    have keep : selB wd q' = true → ∃ acc, H2 D = some (.lst acc) ∧ acc.length < sizeLine ∧ LcP H D (fun i acc _ => acc = (((W.sizes.take i).filter (selB wd)).map Prod.fst).map V.str) (i + 1) (upd H2 D (.lst (acc ++ [V.str q'.1]))) := fun hb => by
      refine ⟨acc, eD, by omega, .step nD s1 la ?_⟩
      show acc ++ _ = _
      rw [estep, if_pos hb, ra, List.map_append, List.map_append]
      rfl
    have skip : selB wd q' ≠ true → LcP H D (fun i acc _ => acc = (((W.sizes.take i).filter (selB wd)).map Prod.fst).map V.str) (i + 1) H2 := fun hb => by
      refine .skip s1 eD la ?_
      show acc = _
      rw [estep, if_neg hb, List.append_nil]
      exact ra
    walk_at "wp"
    refine ⟨rfl, ite2 (fun hc => keep (by unfold selB; rw [hc]; rfl)) (fun hc => ?_)⟩
    refine ⟨_, wget (s1 _ _ ew) wk_sizes, z, rfl, _, sget (s1 _ _ ez) (lookup_nd ok.znd (List.mem_of_getElem? eq')), _, rfl, ite2 (fun h0 => keep ?_) (fun h0 => skip ?_)⟩
    · have := of_decide_eq_true h0
      unfold selB
      rw [decide_eq_true (show 0 < q'.2 by omega), Bool.or_true]
    · intro hb
      unfold selB at hb
      rw [Bool.or_eq_true] at hb
      rcases hb with h | h
      · exact hc h
      · have := of_decide_eq_true h
        exact h0 (decide_eq_true (by omega))
  · rintro D acc H1 nD s1 eD la ra
    have hs1 := hs.same s1
    have hw1 := hw0.same s1
    rw [List.take_of_length_le (by unfold sizesK; rw [List.length_map]; exact Nat.le_refl _)] at ra
    have hgz : (((W.sizes.filter (selB wd)).map Prod.fst)).length ≤ 4 := by
      rw [List.length_map]
      exact Nat.le_trans (List.length_filter_le _ _) ok.z4
    have hgs : ∀ g ∈ (W.sizes.filter (selB wd)).map Prod.fst, nameB g = true ∧ ∃ m, W.sizes.lookup g = some m ∧ m ≤ 4 ∧ (wd = "fork" → 1 ≤ m) := fun g hg => by
      obtain ⟨qq, hq, rfl⟩ := List.mem_map.mp hg
      obtain ⟨h1, h2⟩ := List.mem_filter.mp hq
      have h3 := ok.zn qq h1
      refine ⟨h3.1, qq.2, lookup_nd ok.znd h1, h3.2, fun e => ?_⟩
      unfold selB at h2
      rw [e, show decide (("fork" : Str) = "call") = false by decide +kernel, Bool.false_or] at h2
      exact of_decide_eq_true h2
    generalize (W.sizes.filter (selB wd)).map Prod.fst = gs at ra hgz hgs
    rw [ra] at eD
    refine sq ?_
    walk_at "wp"
    refine ⟨Nat.zero_le _, fun p2 np2 => ?_⟩
    have s2 := same_new np2 (.lst [])
    refine ⟨.list (gs.map .str), .list [], .lst (.of (s2 _ _ eD)) (dt_strs fun g hg => (hgs g hg).1).dp, .lst (.of upd_same) .nil, strs_shaped fun g hg => (hgs g hg).1, by decide +kernel, ?_⟩
    rw [eqv_nil]
    have s12 := s1.trans s2
    have eD2 := s2 _ _ eD
    have hs2 := hs.same s12
    have hw2 := hw0.same s12
    generalize upd H1 p2 (.lst []) = H2 at s2 s12 eD2 hs2 hw2 ⊢
    refine ⟨_, rfl, ite2 (fun _ => ⟨by omega, fun t nt => q _ _ _ ((SX.of s12).trans (.of (same_new nt _))) (hs2.same (same_new nt _)) (dt_new nt (.cons (dtW (ks := []) (by decide +kernel)) .nil)) (lawL_pass _)⟩) (fun hne => ?_)⟩
    have hg1 : 1 ≤ gs.length := by
      cases e : gs with
      | nil => rw [e] at hne; exact absurd rfl hne
      | cons a r => simp
    refine sq ?_
    walk_at "wp"
    refine ⟨s, D, gs, rfl, hs2, eD2, hg1, by omega, fun H3 g X3 hs3 hg => ?_⟩
    obtain ⟨ng, m, em, hm4, hmf⟩ := hgs g hg
    have hw3 := hw2.sx hs2 X3
    have X13 : SX s H H3 := (SX.of s12).trans X3
    obtain ⟨n3, k3, c3, z3, od3, ew3, en3, ek3, ec3, ez3⟩ := id hw3
    have gg := X13.x _ _ (hw0.ne hs) ew
    rw [ew3] at gg
    cases gg
    refine sq ?_
    walk_at "wp"
    refine ⟨_, wget ew3 wk_sizes, z, rfl, _, sget ez3 em, rfl, .inr ⟨_, rfl, ?_⟩⟩
    obtain ⟨cnt, ecnt, hcm⟩ : ∃ cnt : Nat, (m : Int) - (if decide (wd = Str.ofString "fork") = true then 1 else 0) = (cnt : Int) ∧ (wd = "call" → m = cnt) ∧ (wd = "fork" → m = cnt + 1) := by
      rcases hwd with rfl | rfl
      · exact ⟨m, by rw [show decide (("call" : Str) = Str.ofString "fork") = false by decide +kernel]; simp, fun _ => rfl, fun e => absurd e (by decide +kernel)⟩
      · have := hmf rfl
        exact ⟨m - 1, by rw [show decide (("fork" : Str) = Str.ofString "fork") = true by decide +kernel]; simp; omega, fun e => absurd e (by decide +kernel), fun _ => by omega⟩
    have hc4 : cnt ≤ 4 := by
      rcases hwd with e | e
      · have := hcm.1 e; omega
      · have := hcm.2 e; omega
    rw [ecnt]
    refine sq ?_
    walk_at "wp"
    refine ⟨by omega, by omega, ?_⟩
    rw [Int.toNat_natCast]
    refine lcGoX walk_range (fun D i acc H' => TermsI K H s i acc H') (fun D2 nD2 => ⟨[], .nil, rfl, (fun e he => by cases he), X13.trans (.of (same_new nD2 _)), hs3.same (same_new nD2 _)⟩) (fun _ _ _ _ _ => trivial) ?_ ?_
    · rintro D2 i x acc2 H4 H5 nD2 hi eD4 la2 ⟨ds, hds, lds, hdn, X4, hs4⟩ ⟨eH, ex⟩
      subst eH
      subst ex
      have nDs := hs3.new nD2
      have ew4 := X4.x _ _ (hw0.ne hs) ew
      have en4 := X4.x _ _ (strs_ne_src en hs) en
      walk_at "wp"
      refine ⟨_, wget ew4 wk_names, s, n, 2, _, rfl, hs4, en4, .inl rfl, by have := ok.n4; omega, by have := ok.n4; omega, ok.names, fun H6 v6 d6 X6 hs6 g6 h6 => ?_⟩
      have eD6 := X6.x _ _ nDs eD4
      have nD2H : H D2 = none := none_sx X13 trivial nD2 nDs
      have t7 := tups_lst eD6 (.lst (acc2 ++ [v6]))
      refine ⟨acc2, eD6, by have := dta_len hds; omega, .mk la2 ⟨ds ++ [d6], dta_app (hds.keep (X6.t.trans t7)) (.cons (g6.keep t7) .nil), by rw [List.length_append]; simp; omega, fun e he => ?_, (X4.trans X6).at nD2H _, hs6.upd nDs⟩⟩
      rcases List.mem_append.mp he with h | h
      · exact hdn e h
      · rw [List.mem_singleton.mp h]; exact h6
    rintro D2 acc2 H4 nD2 eD4 la2 ⟨ds, hds, lds, hdn, X4, hs4⟩
    refine ⟨D2, rfl, _, .inl ⟨.of eD4, fun tt ntt => ?_⟩⟩
    have s5 := same_new ntt (.tup acc2)
    have gt : Dt K (upd H4 tt (.tup acc2)) (.ref tt) (.tuple ds) := dt_new ntt hds
    have X5 := X4.trans (.of s5)
    have hs5 := hs4.same s5
    generalize upd H4 tt (.tup acc2) = H5 at gt X5 hs5 ⊢
    have ew5 := X5.x _ _ (hw0.ne hs) ew
    have en5 := X5.x _ _ (strs_ne_src en hs) en
    refine sq ?_
    walk_at "wp"
    refine ⟨rfl, ite2 (fun e => ?_) (fun e => ?_)⟩
    · obtain rfl : wd = "call" := of_decide_eq_true e
      refine ⟨_, wget ew5 wk_names, s, n, _, rfl, hs5, en5, by have := ok.n4; omega, by have := ok.n4; omega, fun H6 x6 X6 hs6 hx6 => ⟨by omega, fun t nt => ?_⟩⟩
      have nx6 := ok.names x6 hx6
      exact q _ _ _ ((X5.trans X6).trans (.of (same_new nt _))) (hs6.same (same_new nt _)) (dt_new nt (.cons (dtW (ks := ["name", "name", "args"]) (by decide +kernel)) (.cons (dtN nx6) (.cons (dtN ng) (.cons (gt.keep X6.t) .nil)))))
        (lawL_3 (k1 := "name") (k2 := "name") (k3 := "args") (by decide +kernel) (by decide) (by decide) (by decide) (p3_name nx6) (p3_name ng) (p3_args (by omega) hdn) fun l => uses_callL (by show W.sizes.lookup g = _; rw [em, hcm.1 rfl, lds]))
    · have ewd : wd = "fork" := by
        rcases hwd with h | h
        · exact absurd (decide_eq_true h) e
        · exact h
      subst ewd
      refine ⟨_, wget ew5 wk_names, s, n, 2, _, rfl, hs5, en5, .inl rfl, by have := ok.n4; omega, by have := ok.n4; omega, ok.names, fun H6 v6 d6 X6 hs6 g6 h6 => ⟨by omega, fun t nt => ?_⟩⟩
      exact q _ _ _ ((X5.trans X6).trans (.of (same_new nt _))) (hs6.same (same_new nt _)) (dt_new nt (.cons (dtW (ks := ["expression", "name", "args"]) (by decide +kernel)) (.cons g6 (.cons (dtN ng) (.cons (gt.keep X6.t) .nil)))))
        (lawL_3 (k1 := "expression") (k2 := "name") (k3 := "args") (by decide +kernel) (by decide) (by decide) (by decide) (p3_expr h6) (p3_name ng) (p3_args (by omega) hdn) fun l => uses_forkL (by show W.sizes.lookup g = _; rw [em, hcm.2 rfl, lds]))
end
end K91
set_option Elab.async false
set_option linter.all false
set_option maxRecDepth 100000
set_option maxHeartbeats 8000000
namespace K91
open PySem PySem.Spec PyProof.Rows L2 _root_.SX
local macro_rules | `(tactic| walk_at "wp") => `(tactic| try simp only [cxK, cxw, cxK', cxw', start1, start2, start3, start4, start5, tRet, tRetN, tAsg, gName, gTup, gCons, gNil, gSub, tDrop, tNext, tIfS, tIf, tVar, tC, tAndV, tOrV, tNotV, tAnd, tOr, tNot, tTest, tB, tCB, tCons, tNil, tOp, tUn, rI0, rI, rU, rEq, rNe, rIn, tChain, tFld, sFld, tSl, tPart, tNoPart, tTup, tLst, tCallR, tMethR, tMethO, tBM, tBM0, tM0, tM1, tDGet, tDIn, tDNotIn, tDNewK, tCmp, t2I, tIsN, tNotN, tYes, tLc_eq, tFor_eq, tLenSetN, iItems, iVals, iKeys, iRng1, tLock, tLockE, tCallKw, tMakeKw, tMethKw, StX.tMakeR, tDc_eq, tLc2_eq, sFldAug, rMulS, tListVals, LiI.tListItems, LiI.rItemsL, RZ.iZipA, iStr, iTup, iList, iEnum, iEnumT, tDGet1, tDGet2, tDisp, tPairs, wipe, List.map_cons, List.map_nil,
  List.length_cons, List.length_nil, Nat.reduceAdd, Nat.reduceSub, List.replicate_succ, List.replicate_zero, if_true, if_false, Bool.not_true, Bool.not_false, Bool.false_eq_true, reduceIte,
  List.set_cons_zero, List.set_cons_succ, List.getElem?_cons_zero, List.getElem?_cons_succ, Option.some.injEq, exists_eq_left', exists_eq_left, V.int.injEq, V.str.injEq, V.bl.injEq, V.ref.injEq, V.ty.injEq, List.cons.injEq, and_true, true_and, and_assoc, exists_and_left, List.nil_append, List.cons_append, List.append_nil])
local macro_rules | `(tactic| walk_at "st") => `(tactic| (refine sq ?_; walk_at "wp"))
section
variable {P : Program} {w : World} {K : PySem.W.Frag} {mg : Str → Option Value} {base : Heap}
/-- the world's addresses -/
structure WA where
  n : Addr
  k : Addr
  c : Addr
  z : Addr
  od : Obj
def WAt (H : Hp) (w : Addr) (a : WA) (W : WorldD) (left : Int) : Prop := H w = some (.dK (WorldK a.n a.k a.c a.z left)) ∧ H a.n = some (.lst (W.names.map V.str)) ∧ H a.k = some (.lst (W.keys.map V.str)) ∧ H a.c = some (.lst (W.crates.map V.str)) ∧ H a.z = some (.frz a.od (.dK (sizesK W.sizes)))
theorem WAt.toW {H : Hp} {w : Addr} {a : WA} {W : WorldD} {left : Int} (h : WAt H w a W left) : WorldAt H w W left := ⟨a.n, a.k, a.c, a.z, a.od, h⟩
theorem WAt.same {H H' : Hp} {w : Addr} {a : WA} {W : WorldD} {left : Int} (h : WAt H w a W left) (s : Same H H') : WAt H' w a W left := ⟨s _ _ h.1, s _ _ h.2.1, s _ _ h.2.2.1, s _ _ h.2.2.2.1, s _ _ h.2.2.2.2⟩
theorem WAt.ne {H : Hp} {w s : Addr} {a : WA} {W : WorldD} {left : Int} (h : WAt H w a W left) (hs : SrcAt H s) : w ≠ s := h.toW.ne hs
theorem WAt.sx {H H' : Hp} {w s : Addr} {a : WA} {W : WorldD} {left : Int} (h : WAt H w a W left) (hs : SrcAt H s) (X : SX s H H') : WAt H' w a W left := by
  obtain ⟨h1, h2, h3, h4, h5⟩ := h
  obtain ⟨x, y, e, _⟩ := id hs
  exact ⟨X.x _ _ (by rintro rfl; rw [h1] at e; cases e) h1, X.x _ _ (strs_ne_src h2 hs) h2, X.x _ _ (strs_ne_src h3 hs) h3, X.x _ _ (strs_ne_src h4 hs) h4, X.x _ _ (by intro z; rw [z, e] at h5; cases h5) h5⟩
theorem ne_new {H : Hp} {p D : Addr} {u : HO} (e : H p = some u) (n : H D = none) : p ≠ D := by rintro rfl; rw [e] at n; cases n
theorem WAt.upd {H3 H6 : Hp} {w D : Addr} {a : WA} {W : WorldD} {l l' : Int} (h3 : WAt H3 w a W l) (nD : H3 D = none) (h6 : WAt H6 w a W l') (o : HO) : WAt (L2.upd H6 D o) w a W l' :=
  ⟨by rw [upd_ne (ne_new h3.1 nD)]; exact h6.1, by rw [upd_ne (ne_new h3.2.1 nD)]; exact h6.2.1, by rw [upd_ne (ne_new h3.2.2.1 nD)]; exact h6.2.2.1, by rw [upd_ne (ne_new h3.2.2.2.1 nD)]; exact h6.2.2.2.1, by rw [upd_ne (ne_new h3.2.2.2.2 nD)]; exact h6.2.2.2.2⟩
def pos (l : Int) : Nat := l.toNat
/-- a body at depth 9 - m -/
def spLBody (K : PySem.W.Frag) (m : Nat) : Sp := fun vs H Q _ => ∃ s wa a W left, ∃ dp lo : Nat, vs = [.ref s, .ref wa, .int (dp : Nat), .int (lo : Nat)] ∧ SrcAt H s ∧ WAt H wa a W left ∧ WOk W ∧ dp + m = 9 ∧ 1 ≤ m ∧ lo ≤ dp ∧
  ∀ H' v d left', SX2 s wa H H' → SrcAt H' s → WAt H' wa a W left' → Dt K H' v d → lawB (cxW W) m lo d → cntB m d + 10 * pos left' ≤ 5 + 10 * pos left → Q v H'
/-- a statement at depth 8 - m -/
def spLStmt (K : PySem.W.Frag) (m : Nat) : Sp := fun vs H Q _ => ∃ s wa a W left, ∃ dp lo : Nat, vs = [.ref s, .ref wa, .int (dp : Nat), .int (lo : Nat)] ∧ SrcAt H s ∧ WAt H wa a W left ∧ WOk W ∧ dp + m = 8 ∧ lo ≤ dp ∧
  ∀ H' v d left', SX2 s wa H H' → SrcAt H' s → WAt H' wa a W left' → Dt K H' v d → lawS (cxW W) (lawB (cxW W) m) lo d → cntS (cntB m) d + 10 * pos left' ≤ 1 + 10 * pos left → Q v H'
/-- a nested statement -/
def spLNest (K : PySem.W.Frag) (m : Nat) : Sp := fun vs H Q _ => ∃ s wa a W left, ∃ dp lo : Nat, vs = [.ref s, .ref wa, .int (dp : Nat), .int (lo : Nat)] ∧ SrcAt H s ∧ WAt H wa a W left ∧ WOk W ∧ dp + m = 8 ∧ 1 ≤ m ∧ lo ≤ dp ∧
  ∀ H' v d left', SX2 s wa H H' → SrcAt H' s → WAt H' wa a W left' → Dt K H' v d → lawS (cxW W) (lawB (cxW W) m) lo d → cntS (cntB m) d + 10 * pos left' ≤ 11 + 10 * pos left → Q v H'
theorem lawS_loop {c : Cx91} {B : Nat → PyData → Prop} {lo : Nat} {b : PyData} (h : B (lo + 1) b) : lawS c B lo (.tuple [.str "loop", b]) :=
  ⟨"loop", [b], ["body"], rfl, by decide +kernel, rfl, fun q hq => by rw [List.mem_singleton.mp hq]; rfl, uses_free (by decide +kernel), fun b' hb => by
    have e : bodiesL ["body"] [b] = [b] := rfl
    rw [e] at hb
    rw [List.mem_singleton.mp hb, if_pos rfl]
    exact h⟩
theorem lawS_if {c : Cx91} {B : Nat → PyData → Prop} {lo : Nat} {e b0 b1 : PyData} (he : nestedB 3 e = true) (h0 : B lo b0) (h1 : B lo b1) : lawS c B lo (.tuple [.str "if", e, b0, b1]) :=
  ⟨"if", [e, b0, b1], ["expression", "body", "body"], rfl, by decide +kernel, rfl, fun q hq => by
    rcases List.mem_cons.mp hq with rfl | hq
    · exact p3_expr he
    rcases List.mem_cons.mp hq with rfl | hq
    · rfl
    rw [List.mem_singleton.mp hq]; rfl, uses_free (by decide +kernel), fun b' hb => by
    have e2 : bodiesL ["expression", "body", "body"] [e, b0, b1] = [b0, b1] := rfl
    rw [e2] at hb
    rw [if_neg (by decide +kernel)]
    rcases List.mem_cons.mp hb with rfl | hb
    · exact h0
    rw [List.mem_singleton.mp hb]; exact h1⟩
theorem lawS_try {c : Cx91} {B : Nat → PyData → Prop} {lo : Nat} {x : Str} {b0 b1 : PyData} (hx : nameB x = true) (h0 : B lo b0) (h1 : B lo b1) : lawS c B lo (.tuple [.str "try", b0, .str x, b1]) :=
  ⟨"try", [b0, .str x, b1], ["body", "name", "body"], rfl, by decide +kernel, rfl, fun q hq => by
    rcases List.mem_cons.mp hq with rfl | hq
    · rfl
    rcases List.mem_cons.mp hq with rfl | hq
    · exact p3_name hx
    rw [List.mem_singleton.mp hq]; rfl, uses_free (by decide +kernel), fun b' hb => by
    have e2 : bodiesL ["body", "name", "body"] [b0, .str x, b1] = [b0, b1] := rfl
    rw [e2] at hb
    rw [if_neg (by decide +kernel)]
    rcases List.mem_cons.mp hb with rfl | hb
    · exact h0
    rw [List.mem_singleton.mp hb]; exact h1⟩
theorem cnt_loop {m : Nat} {b : PyData} : cntS (cntB m) (.tuple [.str "loop", b]) = 1 + cntB m b := by
  rw [cntS_of (ks := ["body"]) (by decide +kernel)]
  rfl
theorem cnt_if {m : Nat} {e b0 b1 : PyData} : cntS (cntB m) (.tuple [.str "if", e, b0, b1]) = 1 + (cntB m b0 + cntB m b1) := by
  rw [cntS_of (ks := ["expression", "body", "body"]) (by decide +kernel)]
  rfl
theorem cnt_try {m : Nat} {x b0 b1 : PyData} : cntS (cntB m) (.tuple [.str "try", b0, x, b1]) = 1 + (cntB m b0 + cntB m b1) := by
  rw [cntS_of (ks := ["body", "name", "body"]) (by decide +kernel)]
  rfl
theorem st__law_nested (T : Top K mg w) {m j : Nat} (G__law_body : FnR P w K mg base CX0 (j + 7) (He.ga K "_law_body") (spLBody K m)) : FnR P w K mg base CX0 (j + 8) (He.ga K "_law_nested") (spLNest K m) := by
  obtain ⟨fd, F⟩ := T.def_ d__law_nested (List.mem_of_getElem? (i := 62) rfl)
  refine mkR F sc__law_nested (fun _ _ _ _ _ _ us hl => match us, hl with | [_, _, _, _], _ => rfl) (fun vs H Q E h => ?_) (fun cdv A outer s H vs Q E hr h => ?_)
  · obtain ⟨s, wa, a, W, left, dp, lo, rfl, _⟩ := h; rfl
  obtain ⟨s, wa, a, W, left, dp, lo, rfl, hs, hw, ok, hdp, hm1, hlo, q⟩ := h
  have G__law_choose := ok_chooseN (P := P) (w := w) (base := base) T
  have G__law_expression := ok_exprA (P := P) (w := w) (base := base) T
  refine ⟨_, pss_cons (ps_set (i := 4) sc__law_nested.nd rfl (by first | exact Or.inl rfl | exact Or.inr rfl) (pcall G__law_choose hr (T.glo "_law_choose" (by decide +kernel)) (pa_cons (pv 0) (pa_cons (pe_lst (pa_cons pe_str (pa_cons pe_str (pa_cons pe_str (pa_cons pe_str pa_nil))))) pa_nil))))
    (pss_cons (ps_set (i := 5) sc__law_nested.nd rfl (by first | exact Or.inl rfl | exact Or.inr rfl) (pcall G__law_body hr (T.glo "_law_body" (by decide +kernel)) (pa_cons (pv 0) (pa_cons (pv 1) (pa_cons (pe_op op_add (pv 2) pe_int) (pa_cons (pe_op op_add (pv 3) (pe_callTy call_int1 (by rfl) (T.free "int" (by decide +kernel)) (by decide +kernel) (pa_cons (pe_cmpR (op_eq) (pv 4) pe_str (nomark _)) pa_nil))) pa_nil))))))
    (pss_cons (ps_if (pt_cmpR (op_eq) (pv 4) pe_str (nomark _)) (pss_one (ps_ret (pe_tup (pa_cons (pv 4) (pa_cons (pv 5) pa_nil))))) pss_nil)
    (pss_cons (ps_if (pt_cmpR (op_eq) (pv 4) pe_str (nomark _)) (pss_one (ps_ret (pe_tup (pa_cons (pv 4) (pa_cons (pcall G__law_expression hr (T.glo "_law_expression" (by decide +kernel)) (pa_cons (pv 0) (pa_cons (pe_dget (hu_of hr) (pv 1) pe_str (fun _ _ => rfl)) (pa_cons pe_int pa_nil)))) (pa_cons (pv 5) (pa_cons (pcall G__law_body hr (T.glo "_law_body" (by decide +kernel)) (pa_cons (pv 0) (pa_cons (pv 1) (pa_cons (pe_op op_add (pv 2) pe_int) (pa_cons (pv 3) pa_nil))))) pa_nil))))))) pss_nil)
    (pss_one (ps_ret (pe_tup (pa_cons (pv 4) (pa_cons (pv 5) (pa_cons (pcall G__law_choose hr (T.glo "_law_choose" (by decide +kernel)) (pa_cons (pv 0) (pa_cons (pe_dget (hu_of hr) (pv 1) pe_str (fun _ _ => rfl)) pa_nil))) (pa_cons (pcall G__law_body hr (T.glo "_law_body" (by decide +kernel)) (pa_cons (pv 0) (pa_cons (pv 1) (pa_cons (pe_op op_add (pv 2) pe_int) (pa_cons (pv 3) pa_nil))))) pa_nil)))))))))), ?_⟩
  have zl := line_big
  have hw0 := hw
  obtain ⟨n, k, c, z, od, ew, en, ek, ec, ez⟩ := hw.toW
  refine sq ?_
  walk_at "wp"
  refine ⟨by omega, fun p np => ?_⟩
  have s1 := same_new np (.lst [V.str "if", V.str "loop", V.str "loop", V.str "try"])
  refine ⟨s, p, ["if", "loop", "loop", "try"], rfl, hs.same s1, upd_same, by decide, by decide, fun H2 wd X2 hs2 hwd => ?_⟩
  refine sq ?_
  walk_at "wp"
  have X12 : SX2 s wa H H2 := .of ((SX.of s1).trans X2)
  have hw2 := (hw0.same s1).sx (hs.same s1) X2
  obtain ⟨lo2, elo, h_loop, h_no⟩ : ∃ lo2 : Nat, (lo : Int) + (if decide (wd = Str.ofString "loop") = true then 1 else 0) = (lo2 : Int) ∧ (wd = "loop" → lo2 = lo + 1) ∧ (wd ≠ "loop" → lo2 = lo) := by
    by_cases e : wd = "loop"
    · exact ⟨lo + 1, by rw [decide_eq_true e]; simp, fun _ => rfl, fun z => absurd e z⟩
    · exact ⟨lo, by rw [decide_eq_false e]; simp, fun z => absurd z e, fun _ => rfl⟩
  have hlo2 : lo2 ≤ dp + 1 := by
    by_cases e : wd = "loop"
    · have := h_loop e; omega
    · have := h_no e; omega
  refine ⟨rfl, .inr ?_⟩
  rw [elo]
  refine ⟨s, wa, a, W, left, dp + 1, lo2, by rw [show ((dp : Int) + 1) = ((dp + 1 : Nat) : Int) by omega], hs2, hw2, ok, by omega, hm1, hlo2, fun H3 v3 d3 left3 X3 hs3 hw3 g3 hb3 hc3 => ?_⟩
  have X13 := X12.trans X3
  refine sq ?_
  walk_at "wp"
  refine ⟨rfl, ite2 (fun e => ⟨by omega, fun t nt => ?_⟩) (fun e => ?_)⟩
  · obtain rfl : wd = "loop" := of_decide_eq_true e
    have s4 := same_new nt (.tup [V.str (Str.ofString "loop"), v3])
    rw [h_loop rfl] at hb3
    exact q _ _ _ left3 (X13.trans (.of (.of s4))) (hs3.same s4) (hw3.same s4) (dt_new nt (.cons (dtW (ks := ["body"]) (by decide +kernel)) (.cons g3 .nil))) (lawS_loop hb3) (by rw [cnt_loop]; omega)
  have nl : wd ≠ "loop" := fun z => e (decide_eq_true z)
  rw [h_no nl] at hb3
  obtain ⟨n3, k3, c3, z3, od3, ew3, en3, ek3, ec3, ez3⟩ := hw3.toW
  refine sq ?_
  walk_at "wp"
  refine ⟨rfl, ite2 (fun e2 => ?_) (fun e2 => ?_)⟩
  · obtain rfl : wd = "if" := of_decide_eq_true e2
    refine ⟨_, wget ew3 wk_names, s, n3, 3, _, rfl, hs3, en3, .inr rfl, by have := ok.n4; omega, by have := ok.n4; omega, ok.names, fun H4 v4 d4 X4 hs4 g4 h4 => ?_⟩
    have hw4 := hw3.sx hs3 X4
    refine ⟨s, wa, a, W, left3, dp + 1, lo, by rw [show ((dp : Int) + 1) = ((dp + 1 : Nat) : Int) by omega], hs4, hw4, ok, by omega, hm1, by omega, fun H5 v5 d5 left5 X5 hs5 hw5 g5 hb5 hc5 => ⟨by omega, fun t nt => ?_⟩⟩
    have s6 := same_new nt (.tup [V.str (Str.ofString "if"), v4, v3, v5])
    exact q _ _ _ left5 (((X13.trans (.of X4)).trans X5).trans (.of (.of s6))) (hs5.same s6) (hw5.same s6) (dt_new nt (.cons (dtW (ks := ["expression", "body", "body"]) (by decide +kernel)) (.cons (g4.keep X5.t) (.cons (g3.keep (X4.t.trans X5.t)) (.cons g5 .nil))))) (lawS_if h4 hb3 hb5) (by rw [cnt_if]; omega)
  · have ewd : wd = "try" := by
      simp only [List.mem_cons, List.not_mem_nil, or_false] at hwd
      rcases hwd with h | h | h | h
      · exact absurd (decide_eq_true h) e2
      · exact absurd h nl
      · exact absurd h nl
      · exact h
    subst ewd
    refine ⟨_, wget ew3 wk_names, s, n3, _, rfl, hs3, en3, by have := ok.n4; omega, by have := ok.n4; omega, fun H4 x4 X4 hs4 hx4 => ?_⟩
    have hw4 := hw3.sx hs3 X4
    have nx4 := ok.names x4 hx4
    refine ⟨s, wa, a, W, left3, dp + 1, lo, by rw [show ((dp : Int) + 1) = ((dp + 1 : Nat) : Int) by omega], hs4, hw4, ok, by omega, hm1, by omega, fun H5 v5 d5 left5 X5 hs5 hw5 g5 hb5 hc5 => ⟨by omega, fun t nt => ?_⟩⟩
    have s6 := same_new nt (.tup [V.str (Str.ofString "try"), v3, V.str x4, v5])
    exact q _ _ _ left5 (((X13.trans (.of X4)).trans X5).trans (.of (.of s6))) (hs5.same s6) (hw5.same s6) (dt_new nt (.cons (dtW (ks := ["body", "name", "body"]) (by decide +kernel)) (.cons (g3.keep (X4.t.trans X5.t)) (.cons (dtN nx4) (.cons g5 .nil))))) (lawS_try nx4 hb3 hb5) (by rw [cnt_try]; omega)
end
end K91
set_option Elab.async false
set_option linter.all false
set_option maxRecDepth 100000
set_option maxHeartbeats 8000000
namespace K91
open PySem PySem.Spec PyProof.Rows L2 _root_.SX
local macro_rules | `(tactic| walk_at "wp") => `(tactic| try simp only [cxK, cxw, cxK', cxw', start1, start2, start3, start4, start5, tRet, tRetN, tAsg, gName, gTup, gCons, gNil, gSub, tDrop, tNext, tIfS, tIf, tVar, tC, tAndV, tOrV, tNotV, tAnd, tOr, tNot, tTest, tB, tCB, tCons, tNil, tOp, tUn, rI0, rI, rU, rEq, rNe, rIn, tChain, tFld, sFld, tSl, tPart, tNoPart, tTup, tLst, tCallR, tMethR, tMethO, tBM, tBM0, tM0, tM1, tDGet, tDIn, tDNotIn, tDNewK, tCmp, t2I, tIsN, tNotN, tYes, tLc_eq, tFor_eq, tLenSetN, iItems, iVals, iKeys, iRng1, tLock, tLockE, tCallKw, tMakeKw, tMethKw, StX.tMakeR, tDc_eq, tLc2_eq, sFldAug, rMulS, tListVals, LiI.tListItems, LiI.rItemsL, RZ.iZipA, iStr, iTup, iList, iEnum, iEnumT, tDGet1, tDGet2, tDisp, tPairs, wipe, List.map_cons, List.map_nil,
  List.length_cons, List.length_nil, Nat.reduceAdd, Nat.reduceSub, List.replicate_succ, List.replicate_zero, if_true, if_false, Bool.not_true, Bool.not_false, Bool.false_eq_true, reduceIte,
  List.set_cons_zero, List.set_cons_succ, List.getElem?_cons_zero, List.getElem?_cons_succ, Option.some.injEq, exists_eq_left', exists_eq_left, V.int.injEq, V.str.injEq, V.bl.injEq, V.ref.injEq, V.ty.injEq, List.cons.injEq, and_true, true_and, and_assoc, exists_and_left, List.nil_append, List.cons_append, List.append_nil])
local macro_rules | `(tactic| walk_at "st") => `(tactic| (refine sq ?_; walk_at "wp"))
section
variable {P : Program} {w : World} {K : PySem.W.Frag} {mg : Str → Option Value} {base : Heap}
theorem put_left {n k c z : Addr} {l l' : Int} : putK (WorldK n k c z l) (.inr "left") (.int l') = WorldK n k c z l' := by
  unfold putK WorldK
  simp [show ("names" : Str) ≠ "left" by decide +kernel, show ("keys" : Str) ≠ "left" by decide +kernel, show ("crates" : Str) ≠ "left" by decide +kernel, show ("sizes" : Str) ≠ "left" by decide +kernel]
theorem world_put {H : Hp} {wa : Addr} {a : WA} {W : WorldD} {left left' : Int} (h : WAt H wa a W left) : WAt (upd H wa (.dK (WorldK a.n a.k a.c a.z left'))) wa a W left' := by
  obtain ⟨ew, en, ek, ec, ez⟩ := h
  exact ⟨upd_same, by rw [upd_ne (by intro z; rw [z, ew] at en; cases en)]; exact en, by rw [upd_ne (by intro z; rw [z, ew] at ek; cases ek)]; exact ek, by rw [upd_ne (by intro z; rw [z, ew] at ec; cases ec)]; exact ec, by rw [upd_ne (by intro z; rw [z, ew] at ez; cases ez)]; exact ez⟩
theorem lawS_jump {c : Cx91} {B : Nat → PyData → Prop} {lo : Nat} {wd : Str} {i : Int} (hw : wd = "break" ∨ wd = "continue") (h1 : 1 ≤ i) (h2 : i ≤ lo) : lawS c B lo (.tuple [.str wd, .int i]) := by
  have hk : shapeOf wd = some (["jump"] : List Str) := by rcases hw with rfl | rfl <;> decide +kernel
  refine ⟨wd, [.int i], ["jump"], rfl, hk, rfl, fun q hq => by rw [List.mem_singleton.mp hq]; exact p3_jump h1, ?_, ?_⟩
  · have n1 : wd ≠ "call" ∧ wd ≠ "fork" ∧ wd ≠ "write" ∧ wd ≠ "read" := by rcases hw with rfl | rfl <;> decide +kernel
    exact ⟨fun e => absurd e n1.1, fun e => absurd e n1.2.1, fun e => absurd e n1.2.2.1, fun e => absurd e n1.2.2.2, fun _ => ⟨i, rfl, h2⟩⟩
  · rw [bodies_none (by decide)]
    exact fun b hb => by cases hb
theorem cnt_jump {m : Nat} {wd : Str} {i : Int} (hw : wd = "break" ∨ wd = "continue") : cntS (cntB m) (.tuple [.str wd, .int i]) = 1 := by
  have hk : shapeOf wd = some (["jump"] : List Str) := by rcases hw with rfl | rfl <;> decide +kernel
  rw [cntS_of hk, bodies_none (by decide)]
  rfl
theorem st__law_statement (T : Top K mg w) {m j : Nat} (G__law_nested : FnR P w K mg base CX0 (j + 8) (He.ga K "_law_nested") (spLNest K m)) : FnR P w K mg base CX0 (j + 9) (He.ga K "_law_statement") (spLStmt K m) := by
  obtain ⟨fd, F⟩ := T.def_ d__law_statement (List.mem_of_getElem? (i := 63) rfl)
  refine mkR F sc__law_statement (fun _ _ _ _ _ _ us hl => match us, hl with | [_, _, _, _], _ => rfl) (fun vs H Q E h => ?_) (fun cdv A outer s H vs Q E hr h => ?_)
  · obtain ⟨s, wa, a, W, left, dp, lo, rfl, _⟩ := h; rfl
  obtain ⟨s, wa, a, W, left, dp, lo, rfl, hs, hw, ok, hdp, hlo, q⟩ := h
  have G__law_draw := ok__law_draw (P := P) (w := w) (base := base) T
  have G__law_choose := ok_chooseN (P := P) (w := w) (base := base) T
  have G__law_entered := ok__law_entered (P := P) (w := w) (base := base) T
  have G__law_tail := ok__law_tail (P := P) (w := w) (base := base) T
  refine ⟨_, pss_cons (ps_set (i := 4) sc__law_statement.nd rfl (by first | exact Or.inl rfl | exact Or.inr rfl) (pcall G__law_draw hr (T.glo "_law_draw" (by decide +kernel)) (pa_cons (pv 0) (pa_cons pe_int pa_nil))))
    (pss_cons (ps_dput (hu_of hr) (pv 1) pe_str (pe_op op_sub (pe_dget (hu_of hr) (pv 1) pe_str (fun _ _ => rfl)) pe_int) rfl)
    (pss_cutK (ps_if (PW.pt (pw_and (pt_cmpR (op_gt) (pv 4) pe_int (nomark _)) (pw_and (pt_cmpR (op_lt) (pv 2) pe_int (nomark _)) (pw_and1 (pt_cmpR (op_gt) (pe_dget (hu_of hr) (pv 1) pe_str (fun _ _ => rfl)) pe_int (nomark _)))))) (pss_one (ps_ret (pcall G__law_nested hr (T.glo "_law_nested" (by decide +kernel)) (pa_cons (pv 0) (pa_cons (pv 1) (pa_cons (pv 2) (pa_cons (pv 3) pa_nil))))))) pss_nil)
    (pss_cutK (ps_if (PW.pt (pw_and (pt_cmpR (op_eq) (pv 4) pe_int (nomark _)) (pw_and1 (pt_cmpR (op_gt) (pv 3) pe_int (nomark _))))) (pss_one (ps_ret (pe_tup (pa_cons (pcall G__law_choose hr (T.glo "_law_choose" (by decide +kernel)) (pa_cons (pv 0) (pa_cons (pe_lst (pa_cons pe_str (pa_cons pe_str pa_nil))) pa_nil))) (pa_cons (pe_op op_add pe_int (pcall G__law_draw hr (T.glo "_law_draw" (by decide +kernel)) (pa_cons (pv 0) (pa_cons (pv 3) pa_nil)))) pa_nil))))) pss_nil)
    (pss_cons (ps_if (pt_cmpR (op_lt) (pv 4) pe_int (nomark _)) (pss_one (ps_ret (pcall G__law_entered hr (T.glo "_law_entered" (by decide +kernel)) (pa_cons (pv 0) (pa_cons (pv 1) (pa_cons (pe_ix (r := rIxL K) ix_list (pe_lst (pa_cons pe_str (pa_cons pe_str (pa_cons pe_str pa_nil)))) (pv 4) (fun _ _ => rfl)) pa_nil)))))) pss_nil)
    (pss_cons (ps_set (i := 5) sc__law_statement.nd rfl (by first | exact Or.inl rfl | exact Or.inr rfl) (pe_lst (pa_cons pe_str (pa_cons pe_str (pa_cons pe_str (pa_cons pe_str (pa_cons pe_str (pa_cons pe_str (pa_cons pe_str (pa_cons pe_str (pa_cons pe_str pa_nil)))))))))))
    (pss_one (ps_ret (pcall G__law_tail hr (T.glo "_law_tail" (by decide +kernel)) (pa_cons (pv 0) (pa_cons (pv 1) (pa_cons (pe_ix (r := rIxL K) ix_list (pv 5) (pe_op op_mod (pv 4) pe_int) (fun _ _ => rfl)) pa_nil))))))))))), ?_⟩
  have zl := line_big
  refine sq ?_
  walk_at "wp"
  refine ⟨s, 18, rfl, hs, by decide, by decide, fun H1 way X1 hs1 hway => ?_⟩
  have hw1 := hw.sx hs X1
  have ew := hw1.1
  refine sq ?_
  simp only [sDPut]
  walk_at "wp"
  refine ⟨_, wget ew wk_left, _, rfl, _, .k (k := .inr "left") ew (by show 5 < sizeLine; omega), ?_⟩
  rw [put_left]
  have hw2 : WAt (upd H1 wa (.dK (WorldK a.n a.k a.c a.z (left - 1)))) wa a W (left - 1) := world_put hw1
  have X2 : SX2 s wa H (upd H1 wa (.dK (WorldK a.n a.k a.c a.z (left - 1)))) := (SX2.of X1).trans (.putD ew _)
  have hs2 : SrcAt (upd H1 wa (.dK (WorldK a.n a.k a.c a.z (left - 1)))) s := hs1.upd (hw1.ne hs1)
  have ew2 : (upd H1 wa (.dK (WorldK a.n a.k a.c a.z (left - 1)))) wa = some (.dK (WorldK a.n a.k a.c a.z (left - 1))) := upd_same
  generalize upd H1 wa (.dK (WorldK a.n a.k a.c a.z (left - 1))) = H2 at hw2 X2 hs2 ew2 ⊢
  have hpos : pos (left - 1) ≤ pos left := by unfold pos; omega
  have leaf : ∀ H' v d, SX s H2 H' → SrcAt H' s → Dt K H' v d → lawL (cxW W) d → Q v H' := fun H' v d X hs' g hl => q H' v d (left - 1) (X2.trans (.of X)) hs' (hw2.sx hs2 X) g (lawL_S hl _ _) (by rw [lawL_cnt hl]; omega)
  refine cutI (fun σ H' => σ = [some (V.ref s), some (V.ref wa), some (V.int (dp : Nat)), some (V.int (lo : Nat)), some (V.int (way : Nat)), none] ∧ H' = H2) ?_ ?_
  · walk_at "wp"
    refine ite2 (fun h1 => ite2 (fun h2 => ?_) fun _ => trivial) fun _ => trivial
    refine ⟨_, wget ew2 wk_left, _, rfl, ite2 (fun h3 => ?_) fun _ => trivial⟩
    have h2' := of_decide_eq_true h2
    have h3' := of_decide_eq_true h3
    refine ⟨s, wa, a, W, left - 1, dp, lo, rfl, hs2, hw2, ok, hdp, by omega, hlo, fun H' v d left' X' hs' hw' g hS hc => q H' v d left' (X2.trans X') hs' hw' g hS ?_⟩
    have : pos (left - 1) + 1 = pos left := by unfold pos; omega
    omega
  rintro σ H' ⟨rfl, eH⟩
  subst eH
  refine cutI (fun σ H'' => σ = [some (V.ref s), some (V.ref wa), some (V.int (dp : Nat)), some (V.int (lo : Nat)), some (V.int (way : Nat)), none] ∧ H'' = H') ?_ ?_
  · walk_at "wp"
    refine ⟨rfl, ite2 (fun h1 => ite2 (fun h2 => ?_) fun _ => trivial) fun _ => trivial⟩
    have h2' := of_decide_eq_true h2
    refine ⟨by omega, fun p np => ?_⟩
    have s3 := same_new np (.lst [V.str "break", V.str "continue"])
    refine ⟨s, p, ["break", "continue"], rfl, hs2.same s3, upd_same, by decide, by decide, fun H3 wd X3 hs3 hwd => ?_⟩
    refine ⟨s, lo, rfl, hs3, by omega, Nat.lt_of_le_of_lt (Nat.log2_le_self _) (by omega), fun H4 d4 X4 hs4 hd4 => ⟨_, rfl, by omega, fun t nt => ?_⟩⟩
    have hwd' : wd = "break" ∨ wd = "continue" := by
      simp only [List.mem_cons, List.not_mem_nil, or_false] at hwd
      exact hwd
    have s5 := same_new nt (.tup [V.str wd, V.int (1 + (d4 : Nat))])
    have X35 := (((SX.of s3 (p := s)).trans X3).trans X4).trans (.of s5)
    refine q _ _ _ (left - 1) (X2.trans (.of X35)) (hs4.same s5) (hw2.sx hs2 X35) (dt_new nt (.cons (dtW (ks := ["jump"]) ?_) (.cons (.int _) .nil))) (lawS_jump hwd' (by omega) (by omega)) (by rw [cnt_jump hwd']; omega)
    rcases hwd' with rfl | rfl <;> decide +kernel
  rintro σ H2 ⟨rfl, eH⟩
  subst eH
  refine sq ?_
  walk_at "wp"
  refine ite2 (fun h3 => ⟨by omega, fun p np => ?_⟩) fun h3 => ?_
  · have h3' := of_decide_eq_true h3
    have s3 := same_new np (.lst [V.str "call", V.str "call", V.str "fork"])
    have hO : ∃ o : Str, ([V.str "call", V.str "call", V.str "fork"] : List V)[way]? = some (V.str o) ∧ (o = "call" ∨ o = "fork") := by
      have h7 : way = 0 ∨ way = 1 ∨ way = 2 := by omega
      rcases h7 with rfl | rfl | rfl
      · exact ⟨"call", rfl, .inl rfl⟩
      · exact ⟨"call", rfl, .inl rfl⟩
      · exact ⟨"fork", rfl, .inr rfl⟩
    obtain ⟨o, eo, ho⟩ := hO
    refine ixL_at way (.of upd_same) eo ⟨s, wa, W, left - 1, o, rfl, hs2.same s3, (hw2.same s3).toW, ok, ho, fun H' v d X' hs' g hl => leaf H' v d ((SX.of s3).trans X') hs' g hl⟩
  refine sq ?_
  walk_at "wp"
  refine ⟨by omega, fun p np => ?_⟩
  have s3 := same_new np (.lst [V.str "set", V.str "return", V.str "raise", V.str "send", V.str "receive", V.str "meet", V.str "read", V.str "write", V.str "set"])
  have hO : ∃ o : Str, ([V.str "set", V.str "return", V.str "raise", V.str "send", V.str "receive", V.str "meet", V.str "read", V.str "write", V.str "set"] : List V)[way % 9]? = some (V.str o) ∧ o ∈ tailW := by
    have h9 : way % 9 = 0 ∨ way % 9 = 1 ∨ way % 9 = 2 ∨ way % 9 = 3 ∨ way % 9 = 4 ∨ way % 9 = 5 ∨ way % 9 = 6 ∨ way % 9 = 7 ∨ way % 9 = 8 := by omega
    rcases h9 with e | e | e | e | e | e | e | e | e <;> rw [e]
    · exact ⟨"set", rfl, by decide +kernel⟩
    · exact ⟨"return", rfl, by decide +kernel⟩
    · exact ⟨"raise", rfl, by decide +kernel⟩
    · exact ⟨"send", rfl, by decide +kernel⟩
    · exact ⟨"receive", rfl, by decide +kernel⟩
    · exact ⟨"meet", rfl, by decide +kernel⟩
    · exact ⟨"read", rfl, by decide +kernel⟩
    · exact ⟨"write", rfl, by decide +kernel⟩
    · exact ⟨"set", rfl, by decide +kernel⟩
  obtain ⟨o, eo, ho⟩ := hO
  refine ⟨by decide, ?_⟩
  rw [show ((way : Int) % 9) = ((way % 9 : Nat) : Int) by omega]
  exact ixL_at (way % 9) (.of upd_same) eo ⟨s, wa, W, left - 1, o, rfl, hs2.same s3, (hw2.same s3).toW, ok, ho, fun H' v d X' hs' g hl => leaf H' v d ((SX.of s3).trans X') hs' g hl⟩
/-- statements so far -/
def BodyI (K : PySem.W.Frag) (H0 : Hp) (s wa : Addr) (a : WA) (W : WorldD) (left : Int) (m lo i : Nat) (acc : List V) (H' : Hp) : Prop := ∃ ds left', DtAll K H' acc ds ∧ ds.length = i ∧ (∀ d ∈ ds, lawS (cxW W) (lawB (cxW W) m) lo d) ∧ SX2 s wa H0 H' ∧ SrcAt H' s ∧ WAt H' wa a W left' ∧ (ds.map (cntS (cntB m))).sum + 10 * pos left' ≤ i + 10 * pos left
theorem st__law_body (T : Top K mg w) {m j : Nat} (G__law_statement : FnR P w K mg base CX0 (j + 9) (He.ga K "_law_statement") (spLStmt K m)) : FnR P w K mg base CX0 (j + 10) (He.ga K "_law_body") (spLBody K (m + 1)) := by
  obtain ⟨fd, F⟩ := T.def_ d__law_body (List.mem_of_getElem? (i := 64) rfl)
  refine mkR F sc__law_body (fun _ _ _ _ _ _ us hl => match us, hl with | [_, _, _, _], _ => rfl) (fun vs H Q E h => ?_) (fun cdv A outer s H vs Q E hr h => ?_)
  · obtain ⟨s, wa, a, W, left, dp, lo, rfl, _⟩ := h; rfl
  obtain ⟨s, wa, a, W, left, dp, lo, rfl, hs, hw, ok, hdp, _, hlo, q⟩ := h
  have G__law_draw := ok__law_draw (P := P) (w := w) (base := base) T
  refine ⟨_, pss_cons (ps_set (i := 4) sc__law_body.nd rfl (by first | exact Or.inl rfl | exact Or.inr rfl) (pe_ix (r := rIxL K) ix_list (pe_lst (pa_cons pe_int (pa_cons pe_int (pa_cons pe_int (pa_cons (pe_op op_add pe_int (pcall G__law_draw hr (T.glo "_law_draw" (by decide +kernel)) (pa_cons (pv 0) (pa_cons pe_int pa_nil)))) pa_nil))))) (pcall G__law_draw hr (T.glo "_law_draw" (by decide +kernel)) (pa_cons (pv 0) (pa_cons pe_int pa_nil))) (fun _ _ => rfl)))
    (pss_one (ps_ret (pe_callTy call_tuple_of (by rfl) (T.free "tuple" (by decide +kernel)) (by decide +kernel) (pa_cons (pe_lc (own := [("_law_turn", 5)]) (g := (gName 5)) (tt := tYes) rfl sc__law_body.nd (pi_range1 (by rfl) (T.free "range" (by decide +kernel)) (pa_cons (pv 4) pa_nil)) (blkOk_by (own := [("_law_turn", 5)]) (N := ["_law_source_here", "_law_world_here", "_law_depth", "_law_loops", "_law_many", "_law_turn"]) (sc := defScope s__law_body) (by decide +kernel)) (fun _ _ _ _ _ => (pg_name (i := 5) sc__law_body.nd rfl (by first | exact Or.inl rfl | exact Or.inr rfl))) (fun _ _ _ _ _ => pts_nil) (fun _ _ _ _ _ => (pcall G__law_statement hr (T.glo "_law_statement" (by decide +kernel)) (pa_cons (pv 0) (pa_cons (pv 1) (pa_cons (pv 2) (pa_cons (pv 3) pa_nil))))))) pa_nil)))), ?_⟩
  have zl := line_big
  refine sq ?_
  walk_at "wp"
  refine ⟨s, 5, rfl, hs, by decide, by decide, fun H1 d1 X1 hs1 hd1 => ⟨_, rfl, by omega, fun p np => ?_⟩⟩
  have s2 := same_new np (.lst [V.int 1, V.int 1, V.int 2, V.int (1 + (d1 : Nat))])
  have nps := hs1.new np
  refine ⟨s, 4, rfl, hs1.same s2, by decide, by decide, fun H3 d3 X3 hs3 hd3 => ?_⟩
  have hN : ∃ N : Nat, ([V.int 1, V.int 1, V.int 2, V.int (1 + (d1 : Nat))] : List V)[d3]? = some (V.int (N : Nat)) ∧ 1 ≤ N ∧ N ≤ 5 := by
    have h4 : d3 = 0 ∨ d3 = 1 ∨ d3 = 2 ∨ d3 = 3 := by omega
    rcases h4 with rfl | rfl | rfl | rfl
    · exact ⟨1, rfl, by decide, by decide⟩
    · exact ⟨1, rfl, by decide, by decide⟩
    · exact ⟨2, rfl, by decide, by decide⟩
    · exact ⟨1 + d1, by rw [show (((1 + d1 : Nat) : Int)) = 1 + ((d1 : Nat) : Int) by omega]; rfl, by omega, by omega⟩
  obtain ⟨N, eN, N1, N5⟩ := hN
  have X13 := (X1.trans (.of s2)).trans X3
  have hw3 := hw.sx hs X13
  refine ixL_at d3 (.of (X3.x _ _ nps upd_same)) eN ⟨_, rfl, by omega, by omega, ?_⟩
  rw [Int.toNat_natCast]
  refine lcGoX walk_range (fun D i acc H' => BodyI K H s wa a W left m lo i acc H') (fun D nD => ⟨[], left, .nil, rfl, (fun d hd => by cases hd), (SX2.of X13).trans (.of (.of (same_new nD _))), hs3.same (same_new nD _), hw3.same (same_new nD _), by simp⟩) (fun _ _ _ _ _ => trivial) ?_ ?_
  · rintro D i x acc H4 H5 nD hi eD la ⟨ds, left4, hds, lds, hdS, X4, hs4, hw4, hc4⟩ ⟨eH, ex⟩
    subst eH
    subst ex
    have nDs := hs3.new nD
    have nDw : D ≠ wa := Ne.symm (ne_new hw3.1 nD)
    walk_at "wp"
    refine ⟨s, wa, a, W, left4, dp, lo, rfl, hs4, hw4, ok, by omega, hlo, fun H6 v6 d6 left6 X6 hs6 hw6 g6 hS6 hc6 => ?_⟩
    have eD6 := X6.x _ _ nDs nDw eD
    have nDH : H D = none := none_sx X13 trivial nD nDs
    have t7 := tups_lst eD6 (.lst (acc ++ [v6]))
    have lacc := dta_len hds
    refine ⟨acc, eD6, by omega, .mk la ⟨ds ++ [d6], left6, dta_app (hds.keep (X6.t.trans t7)) (.cons (g6.keep t7) .nil), by rw [List.length_append]; simp; omega, fun d hd => ?_, (X4.trans X6).at nDH _ eD6 _, hs6.upd nDs, hw3.upd nD hw6 _, ?_⟩⟩
    · rcases List.mem_append.mp hd with h | h
      · exact hdS d h
      · rw [List.mem_singleton.mp h]; exact hS6
    · rw [List.map_append, List.sum_append, List.map_singleton, List.sum_singleton]
      omega
  rintro D acc H4 nD eD la ⟨ds, left4, hds, lds, hdS, X4, hs4, hw4, hc4⟩
  refine ⟨D, rfl, _, .inl ⟨.of eD, fun tt ntt => ?_⟩⟩
  have s5 := same_new ntt (.tup acc)
  exact q _ _ _ left4 (X4.trans (.of (.of s5))) (hs4.same s5) (hw4.same s5) (dt_new ntt hds) ⟨ds, rfl, by omega, by omega, hdS⟩ (by show (ds.map (cntS (cntB m))).sum + _ ≤ _; omega)
theorem okr__law_body (T : Top K mg w) : ∀ m : Nat, FnR P w K mg base CX0 (3 * m + 7) (He.ga K "_law_body") (spLBody K m)
  | 0 => fun A outer s H us vs Q E hr e0 r h => by
    obtain ⟨_, _, _, _, _, _, _, _, _, _, _, _, h1, _⟩ := h
    exact absurd h1 (by omega)
  | m + 1 => by
    have h0 := okr__law_body T m
    have h1 := st__law_nested (P := P) (w := w) (base := base) (j := 3 * m) T h0
    have h2 := st__law_statement (P := P) (w := w) (base := base) (j := 3 * m) T h1
    exact st__law_body (P := P) (w := w) (base := base) (j := 3 * m) T h2
theorem ok__law_body (T : Top K mg w) : FnR P w K mg base CX0 31 (He.ga K "_law_body") (spLBody K 8) := okr__law_body T 8
end
end K91
set_option Elab.async false
set_option linter.all false
set_option maxRecDepth 100000
set_option maxHeartbeats 8000000
namespace K91
open PySem PySem.Spec PyProof.Rows L2 _root_.SX
local macro_rules | `(tactic| walk_at "wp") => `(tactic| try simp only [cxK, cxw, cxK', cxw', start1, start2, start3, start4, start5, tRet, tRetN, tAsg, gName, gTup, gCons, gNil, gSub, tDrop, tNext, tIfS, tIf, tVar, tC, tAndV, tOrV, tNotV, tAnd, tOr, tNot, tTest, tB, tCB, tCons, tNil, tOp, tUn, rI0, rI, rU, rEq, rNe, rIn, tChain, tFld, sFld, tSl, tPart, tNoPart, tTup, tLst, tCallR, tMethR, tMethO, tBM, tBM0, tM0, tM1, tDGet, tDIn, tDNotIn, tDNewK, tCmp, t2I, tIsN, tNotN, tYes, tLc_eq, tFor_eq, tLenSetN, iItems, iVals, iKeys, iRng1, tLock, tLockE, tCallKw, tMakeKw, tMethKw, StX.tMakeR, tDc_eq, tLc2_eq, sFldAug, rMulS, tListVals, LiI.tListItems, LiI.rItemsL, RZ.iZipA, iStr, iTup, iList, iEnum, iEnumT, tDGet1, tDGet2, tDisp, tPairs, wipe, List.map_cons, List.map_nil,
  List.length_cons, List.length_nil, Nat.reduceAdd, Nat.reduceSub, List.replicate_succ, List.replicate_zero, if_true, if_false, Bool.not_true, Bool.not_false, Bool.false_eq_true, reduceIte,
  List.set_cons_zero, List.set_cons_succ, List.getElem?_cons_zero, List.getElem?_cons_succ, Option.some.injEq, exists_eq_left', exists_eq_left, V.int.injEq, V.str.injEq, V.bl.injEq, V.ref.injEq, V.ty.injEq, List.cons.injEq, and_true, true_and, and_assoc, exists_and_left, List.nil_append, List.cons_append, List.append_nil])
local macro_rules | `(tactic| walk_at "st") => `(tactic| (refine sq ?_; walk_at "wp"))
section
variable {P : Program} {w : World} {K : PySem.W.Frag} {mg : Str → Option Value} {base : Heap}
theorem nodup_le : ∀ {L U : List Str}, L.Nodup → (∀ x ∈ L, x ∈ U) → L.length ≤ U.length
  | [], _, _, _ => Nat.zero_le _
  | a :: r, U, hn, hs => by
    have ha := hs a List.mem_cons_self
    obtain ⟨h1, h2⟩ := List.nodup_cons.mp hn
    have := nodup_le (L := r) (U := U.erase a) h2 fun x hx => (List.mem_erase_of_ne (by rintro rfl; exact h1 hx)).mpr (hs x (List.mem_cons_of_mem _ hx))
    rw [List.length_erase_of_mem ha] at this
    have := List.length_pos_of_mem ha
    rw [List.length_cons]
    omega
def one (c : Nat) : Str := ⟨#[c]⟩
def qW (c : Nat) : Str := one c ++ (("q" : String) : Str)
def abc : List Nat := (("abcdefghijklmnopqrstuvwxyz" : String) : Str).cps.toList
theorem abc_len : abc.length = 26 := by decide +kernel
theorem abc_at {d : Nat} (h : d < 26) : ∃ c, abc[d]? = some c ∧ 97 ≤ c ∧ c ≤ 122 := by
  have hl : d < abc.length := by rw [abc_len]; exact h
  have z : ∀ c ∈ abc, 97 ≤ c ∧ c ≤ 122 := by decide +kernel
  exact ⟨abc[d], List.getElem?_eq_getElem hl, z _ (List.getElem_mem hl)⟩
theorem qW_name {c : Nat} (h : c ∈ abc) : nameB (qW c) = true := by
  have z : ∀ c ∈ abc, nameB (qW c) = true := by decide +kernel
  exact z c h
theorem qW_nodup : (abc.map qW).Nodup := by decide +kernel
/-- a word is left -/
theorem q_left {used : List Str} (h : used.length ≤ 25) : ∃ c r, (abc.filter fun c => !used.contains (qW c)) = c :: r := by
  cases e : abc.filter fun c => !used.contains (qW c) with
  | cons c r => exact ⟨c, r, rfl⟩
  | nil =>
    have : ∀ x ∈ abc.map qW, x ∈ used := fun x hx => by
      obtain ⟨c, hc, rfl⟩ := List.mem_map.mp hx
      have := List.filter_eq_nil_iff.mp e c hc
      simpa using this
    have := nodup_le qW_nodup this
    rw [List.length_map, abc_len] at this
    omega
theorem join_one (L : List Nat) : Txt.join (("" : String) : Str) (L.map one) = S L := by
  have e0 : (("" : String) : Str) = S [] := by decide +kernel
  have e1 : L.map one = (L.map fun c => [c]).map S := by rw [List.map_map]; rfl
  rw [e0, e1, join_S, joinL_nil]
  congr 1
  induction L with
  | nil => rfl
  | cons a r ih => simp only [List.map_cons, List.flatten_cons, List.cons_append, List.nil_append]; rw [ih (by rw [List.map_map]; rfl)]
theorem letters_name {L : List Nat} (h : lettersC L) (h1 : 1 ≤ L.length) (h8 : L.length ≤ 8) : nameB (S L) = true := by
  unfold nameB
  rw [S_len, decide_eq_true (by omega), decide_eq_true (by omega), Bool.true_and, Bool.true_and, List.all_eq_true]
  intro c hc
  have := h c hc
  have z : ∀ k : Fin 26, k.1 + 97 ∈ letters.cps.toList := by decide +kernel
  have := z ⟨c - 97, by omega⟩
  simp only at this
  rw [show c - 97 + 97 = c by omega] at this
  exact decide_eq_true this
theorem sum_one : ∀ L : List Nat, ((L.map one).map (·.length)).sum = L.length
  | [] => rfl
  | a :: r => by
    simp only [List.map_cons, List.sum_cons, List.length_cons, sum_one r]
    rw [show (one a).length = 1 from rfl]
    omega
def wordsW : List Str := ["box", "function", "else", "handle", "loop", "try", "add", "least", "input", "go"]
theorem wordsW_name : ∀ x ∈ wordsW, nameB x = true := by decide +kernel
/-- within the word -/
def WordI (H0 : Hp) (s : Addr) (i : Nat) (acc : List V) (H' : Hp) : Prop := ∃ L : List Nat, acc = (L.map one).map V.str ∧ lettersC L ∧ L.length = i ∧ SX s H0 H' ∧ SrcAt H' s
def LeftI (H0 : Hp) (s : Addr) (used : List Str) (i : Nat) (acc : List V) (H' : Hp) : Prop := acc = (((abc.take i).filter fun c => !used.contains (qW c)).map qW).map V.str ∧ SX s H0 H' ∧ SrcAt H' s
def spNewWord (K : PySem.W.Frag) : Sp := fun vs H Q _ => ∃ s u, ∃ used : List Str, vs = [.ref s, .ref u] ∧ SrcAt H s ∧ H u = some (.lst (used.map V.str)) ∧ used.length ≤ 25 ∧ ∀ H' wd, SX s H H' → SrcAt H' s → nameB wd = true → wd ∉ used → Q (.str wd) H'
theorem ok__law_new_word (T : Top K mg w)  : FnR P w K mg base CX0 3 (He.ga K "_law_new_word") (spNewWord K) := by
  obtain ⟨fd, F⟩ := T.def_ d__law_new_word (List.mem_of_getElem? (i := 56) rfl)
  refine mkR F sc__law_new_word (fun _ _ _ _ _ _ us hl => match us, hl with | [_, _], _ => rfl) (fun vs H Q E h => ?_) (fun cdv A outer s H vs Q E hr h => ?_)
  · obtain ⟨s, u, used, rfl, _⟩ := h; rfl
  obtain ⟨s, u, used, rfl, hs, hu, hz, q⟩ := h
  have G__law_draw := ok__law_draw (P := P) (w := w) (base := base) T
  have G__law_choose := ok__law_choose (P := P) (w := w) (base := base) T
  refine ⟨_, pss_cons (ps_set (i := 2) sc__law_new_word.nd rfl (by first | exact Or.inl rfl | exact Or.inr rfl) pe_str)
    (pss_cons (ps_set (i := 3) sc__law_new_word.nd rfl (by first | exact Or.inl rfl | exact Or.inr rfl) (pe_join pe_str (pe_lc (own := [("_law_turn", 4)]) (g := (gName 4)) (tt := tYes) rfl sc__law_new_word.nd (pi_range1 (by rfl) (T.free "range" (by decide +kernel)) (pa_cons (pe_ix (r := rIxL K) ix_list (pe_lst (pa_cons pe_int (pa_cons pe_int (pa_cons pe_int pa_nil)))) (pcall G__law_draw hr (T.glo "_law_draw" (by decide +kernel)) (pa_cons (pv 0) (pa_cons pe_int pa_nil))) (fun _ _ => rfl)) pa_nil)) (blkOk_by (own := [("_law_turn", 4)]) (N := ["_law_source_here", "_law_used", "_law_letters", "_law_word", "_law_turn", "_law_letter"]) (sc := defScope s__law_new_word) (by decide +kernel)) (fun _ _ _ _ _ => (pg_name (i := 4) sc__law_new_word.nd rfl (by first | exact Or.inl rfl | exact Or.inr rfl))) (fun _ _ _ _ _ => pts_nil) (fun _ _ _ _ _ => (pe_ix ix_str (pv 2) (pcall G__law_draw hr (T.glo "_law_draw" (by decide +kernel)) (pa_cons (pv 0) (pa_cons pe_int pa_nil))) (fun _ _ => rfl))))))
    (pss_cutK (ps_if (pt_cmpR (op_eq) (pcall G__law_draw hr (T.glo "_law_draw" (by decide +kernel)) (pa_cons (pv 0) (pa_cons pe_int pa_nil))) pe_int (nomark _)) (pss_one (ps_set (i := 3) sc__law_new_word.nd rfl (by first | exact Or.inl rfl | exact Or.inr rfl) (pcall G__law_choose hr (T.glo "_law_choose" (by decide +kernel)) (pa_cons (pv 0) (pa_cons (pe_lst (pa_cons pe_str (pa_cons pe_str (pa_cons pe_str (pa_cons pe_str (pa_cons pe_str (pa_cons pe_str (pa_cons pe_str (pa_cons pe_str (pa_cons pe_str (pa_cons pe_str pa_nil))))))))))) pa_nil))))) pss_nil)
    (pss_cutK (ps_if (pt_cmpR (r := rIn K false) op_in_seq (pv 3) (pv 1) rfl) (pss_one (ps_set (i := 3) sc__law_new_word.nd rfl (by first | exact Or.inl rfl | exact Or.inr rfl) (pe_ix (r := rIxL K) ix_list (pe_lc (own := [("_law_letter", 5)]) (g := (gName 5)) rfl sc__law_new_word.nd (pi_str (pv 2)) (blkOk_by (own := [("_law_letter", 5)]) (N := ["_law_source_here", "_law_used", "_law_letters", "_law_word", "_law_turn", "_law_letter"]) (sc := defScope s__law_new_word) (by decide +kernel)) (fun _ _ _ _ _ => (pg_name (i := 5) sc__law_new_word.nd rfl (by first | exact Or.inl rfl | exact Or.inr rfl))) (fun _ _ _ _ _ => (pts_one (pt_cmpR (r := rIn K true) op_notIn_seq (pe_op op_add_str (pv 5) pe_str) (pv 1) rfl))) (fun _ _ _ _ _ => (pe_op op_add_str (pv 5) pe_str))) pe_int (fun _ _ => rfl)))) pss_nil)
    (pss_one (ps_ret (pv 3)))))), ?_⟩
  have zl := line_big
  have nus := strs_ne_src hu hs
  refine sq ?_
  walk_at "wp"
  refine sq ?_
  walk_at "wp"
  refine ⟨⟨_, rfl⟩, by omega, fun p np => ?_⟩
  have s1 := same_new np (.lst [V.int 1, V.int 2, V.int 8])
  have nps := hs.new np
  refine ⟨s, 3, rfl, hs.same s1, by decide, by decide, fun H2 d2 X2 hs2 hd2 => ?_⟩
  have hm : ∃ m : Nat, ([V.int 1, V.int 2, V.int 8] : List V)[d2]? = some (V.int (m : Nat)) ∧ 1 ≤ m ∧ m ≤ 8 := by
    have h3 : d2 = 0 ∨ d2 = 1 ∨ d2 = 2 := by omega
    rcases h3 with rfl | rfl | rfl
    · exact ⟨1, rfl, by decide, by decide⟩
    · exact ⟨2, rfl, by decide, by decide⟩
    · exact ⟨8, rfl, by decide, by decide⟩
  obtain ⟨m, em, m1, m8⟩ := hm
  have X12 := (SX.of s1 (p := s)).trans X2
  refine ixL_at d2 (.of (X2.x _ _ nps upd_same)) em ⟨_, rfl, by omega, by omega, ?_⟩
  rw [Int.toNat_natCast]
  refine lcGoX walk_range (fun D i acc H' => WordI H s i acc H') (fun D nD => ⟨[], rfl, (fun c hc => by cases hc), rfl, X12.trans (.of (same_new nD _)), hs2.same (same_new nD _)⟩) (fun _ _ _ _ _ => trivial) ?_ ?_
  · rintro D i x acc H3 H4 nD hi eD la ⟨L, rfl, hL, lL, X3, hs3⟩ ⟨eH, ex⟩
    subst eH
    subst ex
    have nDs := hs2.new nD
    walk_at "wp"
    refine ⟨s, 26, rfl, hs3, by decide, by decide, fun H5 d5 X5 hs5 hd5 => ?_⟩
    obtain ⟨c, ec, c1, c2⟩ := abc_at hd5
    refine ⟨_, (d5 : Nat), c, rfl, rfl, by rw [show (Str.ofString "abcdefghijklmnopqrstuvwxyz").length = 26 by decide +kernel]; omega, atI_nat ec, _, X5.x _ _ nDs eD, by rw [List.length_map, List.length_map]; omega, .mk la ⟨L ++ [c], ?_, ?_, ?_, ?_, ?_⟩⟩
    · rw [List.map_append, List.map_append]; rfl
    · intro c' hc'
      rcases List.mem_append.mp hc' with h | h
      · exact hL c' h
      · rw [List.mem_singleton.mp h]; exact ⟨c1, c2⟩
    · rw [List.length_append]; simp; omega
    · exact (X3.trans X5).at (none_of s1 (none_sx X2 trivial nD nDs)) _
    · exact hs5.upd nDs
  rintro D acc H3 nD eD la ⟨L, rfl, hL, lL, X3, hs3⟩
  have esum := sum_one L
  refine ⟨D, rfl, L.map one, .inl (.of eD), by rw [esum, show (Str.ofString "").length = 0 by decide +kernel]; omega, ?_⟩
  rw [show Txt.join (Str.ofString "") (L.map one) = S L from join_one L]
  have hwL := letters_name hL (by omega) (by omega)
  refine cutI (fun σ H' => ∃ wd, σ = [some (V.ref s), some (V.ref u), some (V.str (Str.ofString "abcdefghijklmnopqrstuvwxyz")), some (V.str wd), none, none] ∧ SX s H H' ∧ SrcAt H' s ∧ nameB wd = true) ?_ ?_
  · walk_at "wp"
    refine ⟨s, 4, rfl, hs3, by decide, by decide, fun H4 d4 X4 hs4 hd4 => ⟨rfl, ite2 (fun _ => ⟨by omega, fun p2 np2 => ?_⟩) fun _ => ?_⟩⟩
    · have s5 := same_new np2 (.lst (wordsW.map V.str))
      refine ⟨s, p2, wordsW.map V.str, rfl, hs4.same s5, upd_same, hs4.new np2, by decide, by decide, fun H5 i5 x5 X5 hs5 hx5 => ?_⟩
      obtain ⟨wd, ew, rfl⟩ := strs_get (ks := wordsW) hx5
      exact ⟨wd, rfl, ((X3.trans X4).trans (.of s5)).trans X5, hs5, wordsW_name _ (List.mem_of_getElem? ew)⟩
    · exact ⟨X3.trans X4, hs4, hwL⟩
  rintro σ H4 ⟨wd, rfl, X4, hs4, hwd⟩
  have hu4 := X4.x _ _ nus hu
  refine cutI (fun σ H' => ∃ wd, σ = [some (V.ref s), some (V.ref u), some (V.str (Str.ofString "abcdefghijklmnopqrstuvwxyz")), some (V.str wd), none, none] ∧ SX s H H' ∧ SrcAt H' s ∧ nameB wd = true ∧ wd ∉ used) ?_ ?_
  · walk_at "wp"
    refine ⟨_, .inl (.of hu4), rfl, all_flat _, ?_⟩
    rw [in_strs]
    refine ite2 (fun hc => ?_) (fun hc => ?_)
    · refine lcGoX walk_str (fun D i acc H' => LeftI H s used i acc H') (fun D nD => ⟨rfl, X4.trans (.of (same_new nD _)), hs4.same (same_new nD _)⟩) (fun _ _ _ _ _ => trivial) ?_ ?_
      · rintro D i x acc H5 H6 nD hi eD la ⟨rfl, X5, hs5⟩ ⟨eH, c, ec, ex⟩
        subst eH
        subst ex
        have nDs := hs4.new nD
        have hu5 := X5.x _ _ nus hu
        have ec2 : abc[i]? = some c := by
          have : (Str.ofString "abcdefghijklmnopqrstuvwxyz").cps.toList[i]? = some c := by rw [Array.getElem?_toList]; exact ec
          exact this
        have l2 : (({ cps := #[c] } : Str)).length + (Str.ofString "q").length ≤ sizeLine := by
          rw [show (({ cps := #[c] } : Str)).length = 1 from rfl, show (Str.ofString "q").length = 1 by decide +kernel]
          omega
        have estep : ((abc.take (i + 1)).filter fun c => !used.contains (qW c)) = ((abc.take i).filter fun c => !used.contains (qW c)) ++ (if (!used.contains (qW c)) = true then [c] else []) := by
          rw [List.take_add_one, ec2, List.filter_append, Option.toList_some, List.filter_cons, List.filter_nil]
        walk_at "wp"
        refine ⟨l2, _, .inl (.of hu5), rfl, all_flat _, ?_⟩
        rw [in_strs]
        refine ite2 (fun hb => ⟨l2, _, eD, by have := la; have : i < 27 := Nat.lt_of_lt_of_le hi (by decide +kernel); omega, .mk la ⟨?_, X5.at (none_sx X4 trivial nD nDs) _, hs5.upd nDs⟩⟩) (fun hb => ⟨_, eD, by omega, ?_, X5, hs5⟩)
        · have hb' : (!used.contains (qW c)) = true := hb
          rw [estep, if_pos hb', List.map_append, List.map_append]
          rfl
        · have hb' : ¬ (!used.contains (qW c)) = true := hb
          rw [estep, if_neg hb', List.append_nil]
      · rintro D acc H5 nD eD la ⟨ra, X5, hs5⟩
        have en : abc.take (Str.ofString "abcdefghijklmnopqrstuvwxyz").cps.size = abc := List.take_of_length_le (by decide +kernel)
        rw [en] at ra
        obtain ⟨c, r, er⟩ := q_left hz
        rw [er] at ra
        subst ra
        have hcm : c ∈ abc.filter fun c => !used.contains (qW c) := by rw [er]; exact List.mem_cons_self
        obtain ⟨c1, c2⟩ := List.mem_filter.mp hcm
        refine ixL_at 0 (.of eD) rfl ?_
        exact ⟨_, rfl, X5, hs5, qW_name c1, by simpa using c2⟩
    · exact ⟨X4, hs4, hwd, by simpa using hc⟩
  rintro σ H5 ⟨wd, rfl, X5, hs5, hwd, hnw⟩
  walk_at "wp"
  exact q H5 wd X5 hs5 hwd hnw
theorem cut_drop {vs : List V} {i : Nat} (h : i ≤ vs.length) : cutV vs (some (i : Int)) none = vs.drop i := by
  unfold cutV
  rw [HT.sIx_nat, HT.sIx_none]
  simp only [Nat.min_eq_left h]
  exact List.take_of_length_le (by rw [List.length_drop]; exact Nat.le_refl _)
/-- new words -/
def spNewWords (K : PySem.W.Frag) : Sp := fun vs H Q _ => ∃ s u, ∃ m : Nat, ∃ used : List Str, vs = [.ref s, .int (m : Nat), .ref u] ∧ SrcAt H s ∧ H u = some (.lst (used.map V.str)) ∧ used.length + m ≤ 25 ∧ used.Nodup ∧
  ∀ H' r, ∀ ws : List Str, SX s H H' → SrcAt H' s → H r = none → H' r = some (.lst (ws.map V.str)) → ws.length = m → (∀ x ∈ ws, nameB x = true) → (used ++ ws).Nodup → Q (.ref r) H'
theorem ok__law_new_words (T : Top K mg w)  : FnR P w K mg base CX0 4 (He.ga K "_law_new_words") (spNewWords K) := by
  obtain ⟨fd, F⟩ := T.def_ d__law_new_words (List.mem_of_getElem? (i := 57) rfl)
  refine mkR F sc__law_new_words (fun _ _ _ _ _ _ us hl => match us, hl with | [_, _, _], _ => rfl) (fun vs H Q E h => ?_) (fun cdv A outer s H vs Q E hr h => ?_)
  · obtain ⟨s, u, m, used, rfl, _⟩ := h; rfl
  obtain ⟨s, u, m, used, rfl, hs, hu, hz, hnd, q⟩ := h
  have G__law_new_word := ok__law_new_word (P := P) (w := w) (base := base) T
  refine ⟨_, pss_cons (ps_set (i := 3) sc__law_new_words.nd rfl (by first | exact Or.inl rfl | exact Or.inr rfl) (pe_callTy call_list_of (by rfl) (T.free "list" (by decide +kernel)) (by decide +kernel) (pa_cons (pv 2) pa_nil)))
    (pss_cons (ps_for PassesOwn.never rfl (pi_range1 (by rfl) (T.free "range" (by decide +kernel)) (pa_cons (pv 1) pa_nil)) (pg_name (i := 4) sc__law_new_words.nd rfl (by first | exact Or.inl rfl | exact Or.inr rfl))
    (pss_one (ps_expr (pe_bm PySem.F.plainAttrs_list PySem.F.slot_list_append PySem.F.type_list_append mt_append (pv 3) (pa_cons (pcall G__law_new_word hr (T.glo "_law_new_word" (by decide +kernel)) (pa_cons (pv 0) (pa_cons (pv 3) pa_nil))) pa_nil)))))
    (pss_one (ps_ret (pe_slice (r := rSlL K) sl_list (pv 3) (po_some (pe_callB (r := fun xs H Q => ∃ x n, xs = [x] ∧ LenV K x H n ∧ Q (.int n) H) call_len (by rfl) (T.free "len" (by decide +kernel)) (by decide +kernel) (pa_cons (pv 2) pa_nil))) po_none)))), ?_⟩
  have zl := line_big
  have nus := strs_ne_src hu hs
  refine sq ?_
  walk_at "wp"
  refine ⟨_, .inl (.of hu), fun f nf => ?_⟩
  have s1 := same_new nf (.lst (used.map V.str))
  have nfs := hs.new nf
  refine sq ?_
  walk_at "wp"
  refine ⟨by omega, by omega, ?_⟩
  rw [Int.toNat_natCast]
  refine forGo walk_range (fun i σ H' => ∃ x4, σ = [some (V.ref s), some (V.int (m : Nat)), some (V.ref u), some (V.ref f), x4] ∧ ∃ ws : List Str, SX s H H' ∧ SrcAt H' s ∧ H' f = some (.lst ((used ++ ws).map V.str)) ∧ ws.length = i ∧ (∀ x ∈ ws, nameB x = true) ∧ (used ++ ws).Nodup)
    ⟨_, rfl, [], .of s1, hs.same s1, by rw [List.append_nil]; exact upd_same, rfl, (fun x hx => by cases hx), by rw [List.append_nil]; exact hnd⟩ (fun _ _ _ _ _ => trivial) ?_ ?_
  · rintro i y σ H2 H3 hi ⟨x4, rfl, ws, X2, hs2, ef2, lw, hw, hnd2⟩ ⟨eH, ex⟩
    subst eH
    subst ex
    walk_at "wp"
    refine ⟨tyL ef2, s, f, used ++ ws, rfl, hs2, ef2, by rw [List.length_append]; omega, fun H4 wd X4 hs4 hwd hnw => app_ask (X4.x _ _ nfs ef2) (by rw [List.length_map, List.length_append]; omega) ?_⟩
    refine ⟨(X2.trans X4).at nf _, hs4.upd nfs, ws ++ [wd], by rw [upd_same, ← List.append_assoc, List.map_append (l₁ := used ++ ws)]; rfl, by rw [List.length_append]; simp; omega, fun x hx => ?_, ?_⟩
    · rcases List.mem_append.mp hx with h | h
      · exact hw x h
      · rw [List.mem_singleton.mp h]; exact hwd
    · rw [← List.append_assoc]
      exact List.nodup_append.mpr ⟨hnd2, by simp, fun a ha b hb => by rw [List.mem_singleton.mp hb]; rintro rfl; exact hnw ha⟩
  · rintro σ H2 ⟨x4, rfl, ws, X2, hs2, ef2, lw, hw, hnd2⟩
    walk_at "wp"
    refine ⟨_, .inl ⟨_, .of (X2.x _ _ nus hu), rfl⟩, f, _, rfl, .of ef2, fun p np => ?_⟩
    have e1 : cutV ((used ++ ws).map V.str) (some (((used.map V.str).length : Nat) : Int)) none = ws.map V.str := by
      rw [cut_drop (by rw [List.length_map, List.length_map, List.length_append]; omega), List.map_append, List.drop_left]
    rw [e1]
    exact q _ p ws (X2.trans (.of (same_new np _))) (hs2.same (same_new np _)) (by cases e : H p with | none => rfl | some z => rw [X2.x _ _ (hs2.new np) e] at np; cases np) upd_same lw hw hnd2
end
end K91
set_option Elab.async false
set_option linter.all false
set_option maxRecDepth 100000
set_option maxHeartbeats 8000000
namespace K91
open PySem PySem.Spec PyProof.Rows L2 _root_.SX
local macro_rules | `(tactic| walk_at "wp") => `(tactic| try simp only [cxK, cxw, cxK', cxw', start1, start2, start3, start4, start5, tRet, tRetN, tAsg, gName, gTup, gCons, gNil, gSub, tDrop, tNext, tIfS, tIf, tVar, tC, tAndV, tOrV, tNotV, tAnd, tOr, tNot, tTest, tB, tCB, tCons, tNil, tOp, tUn, rI0, rI, rU, rEq, rNe, rIn, tChain, tFld, sFld, tSl, tPart, tNoPart, tTup, tLst, tCallR, tMethR, tMethO, tBM, tBM0, tM0, tM1, tDGet, tDIn, tDNotIn, tDNewK, tCmp, t2I, tIsN, tNotN, tYes, tLc_eq, tFor_eq, tLenSetN, iItems, iVals, iKeys, iRng1, tLock, tLockE, tCallKw, tMakeKw, tMethKw, StX.tMakeR, tDc_eq, tLc2_eq, sFldAug, rMulS, tListVals, LiI.tListItems, LiI.rItemsL, RZ.iZipA, iStr, iTup, iList, iEnum, iEnumT, tDGet1, tDGet2, tDisp, tPairs, wipe, List.map_cons, List.map_nil,
  List.length_cons, List.length_nil, Nat.reduceAdd, Nat.reduceSub, List.replicate_succ, List.replicate_zero, if_true, if_false, Bool.not_true, Bool.not_false, Bool.false_eq_true, reduceIte,
  List.set_cons_zero, List.set_cons_succ, List.getElem?_cons_zero, List.getElem?_cons_succ, Option.some.injEq, exists_eq_left', exists_eq_left, V.int.injEq, V.str.injEq, V.bl.injEq, V.ref.injEq, V.ty.injEq, List.cons.injEq, and_true, true_and, and_assoc, exists_and_left, List.nil_append, List.cons_append, List.append_nil])
local macro_rules | `(tactic| walk_at "st") => `(tactic| (refine sq ?_; walk_at "wp"))
section
variable {P : Program} {w : World} {K : PySem.W.Frag} {mg : Str → Option Value} {base : Heap}
theorem cut_mid {vs : List V} {i j : Nat} (h1 : i ≤ j) (h2 : j ≤ vs.length) : cutV vs (some (i : Int)) (some (j : Int)) = (vs.drop i).take (j - i) := by
  unfold cutV
  rw [HT.sIx_nat, HT.sIx_nat]
  simp only [Nat.min_eq_left h2, Nat.min_eq_left (Nat.le_trans h1 h2)]
theorem sizes_kvz (l : List (Str × Nat)) : sizesK l = kvz (l.map Prod.fst) (l.map fun q => V.int (q.2 : Nat)) := by
  induction l with
  | nil => rfl
  | cons a r ih =>
    unfold sizesK kvz at ih ⊢
    simp only [List.map_cons, List.zip_cons_cons, ih]
theorem put_sizes {l : List (Str × Nat)} {g : Str} {m : Nat} (h : g ∉ l.map Prod.fst) : putK (sizesK l) (.inr g) (.int (m : Nat)) = sizesK (l ++ [(g, m)]) := by
  rw [sizes_kvz, put_new h, sizes_kvz, List.map_append, List.map_append, kvz_app (by rw [List.length_map, List.length_map])]
  rfl
/-- sizes so far -/
def SizesI (H0 : Hp) (s z : Addr) (ys : List Str) (i : Nat) (H' : Hp) : Prop := ∃ ms : List Nat, ms.length = i ∧ (∀ m ∈ ms, m ≤ 4) ∧ SX2 s z H0 H' ∧ SrcAt H' s ∧ H' z = some (.dK (sizesK ((ys.take i).zip ms)))
/-- the world, its sizes not being walked -/
def WUt (H : Hp) (w : Addr) (W : WorldD) (left : Int) : Prop := ∃ n k c z, H w = some (.dK (WorldK n k c z left)) ∧ H n = some (.lst (W.names.map V.str)) ∧ H k = some (.lst (W.keys.map V.str)) ∧ H c = some (.lst (W.crates.map V.str)) ∧ H z = some (.dK (sizesK W.sizes))
def spWorld (K : PySem.W.Frag) : Sp := fun vs H Q _ => ∃ s, ∃ left : Int, vs = [.ref s, .int left] ∧ SrcAt H s ∧ ∀ H' wa W, SX s H H' → SrcAt H' s → H wa = none → WUt H' wa W left → WOk W → Q (.ref wa) H'
theorem ok__law_world (T : Top K mg w)  : FnR P w K mg base CX0 5 (He.ga K "_law_world") (spWorld K) := by
  obtain ⟨fd, F⟩ := T.def_ d__law_world (List.mem_of_getElem? (i := 65) rfl)
  refine mkR F sc__law_world (fun _ _ _ _ _ _ us hl => match us, hl with | [_, _], _ => rfl) (fun vs H Q E h => ?_) (fun cdv A outer s H vs Q E hr h => ?_)
  · obtain ⟨s, left, rfl, _⟩ := h; rfl
  obtain ⟨s, left, rfl, hs, q⟩ := h
  have G__law_draw := ok__law_draw (P := P) (w := w) (base := base) T
  have G__law_new_words := ok__law_new_words (P := P) (w := w) (base := base) T
  have G__law_shuffled := ok__law_shuffled (P := P) (w := w) (base := base) T
  refine ⟨_, pss_cons (ps_set (i := 2) sc__law_world.nd rfl (by first | exact Or.inl rfl | exact Or.inr rfl) (pcall G__law_new_words hr (T.glo "_law_new_words" (by decide +kernel)) (pa_cons (pv 0) (pa_cons pe_int (pa_cons (pe_lst (pa_cons pe_str pa_nil)) pa_nil)))))
    (pss_cons (ps_set (i := 3) sc__law_world.nd rfl (by first | exact Or.inl rfl | exact Or.inr rfl) (pe_slice (r := rSlL K) sl_list (pv 2) (po_some pe_int) (po_some (pe_op op_add pe_int (pcall G__law_draw hr (T.glo "_law_draw" (by decide +kernel)) (pa_cons (pv 0) (pa_cons pe_int pa_nil)))))))
    (pss_cons (ps_set (i := 4) sc__law_world.nd rfl (by first | exact Or.inl rfl | exact Or.inr rfl) (pe_disp (pps_cons pe_str (pe_slice (r := rSlL K) sl_list (pv 2) po_none (po_some pe_int)) (pps_cons pe_str (pe_slice (r := rSlL K) sl_list (pv 2) (po_some pe_int) (po_some pe_int)) (pps_cons pe_str (pv 3) (pps_cons pe_str (pv 1) (pps_cons pe_str pe_dnewK pps_nil))))) (by rfl) (by rfl) (fun z => by cases z) (by decide)))
    (pss_cons (ps_for PassesOwn.never rfl (pi_list (pcall G__law_shuffled hr (T.glo "_law_shuffled" (by decide +kernel)) (pa_cons (pv 0) (pa_cons (pe_op op_cat (pe_lst (pa_cons pe_str pa_nil)) (pe_slice (r := rSlL K) sl_list (pv 2) (po_some pe_int) (po_some (pe_op op_add pe_int (pcall G__law_draw hr (T.glo "_law_draw" (by decide +kernel)) (pa_cons (pv 0) (pa_cons pe_int pa_nil))))))) pa_nil)))) (pg_name (i := 5) sc__law_world.nd rfl (by first | exact Or.inl rfl | exact Or.inr rfl))
    (pss_one (ps_dput (hu_of hr) (pe_dget (hu_of hr) (pv 4) pe_str (fun _ _ => rfl)) (pv 5) (pe_ix (r := rIxL K) ix_list (pe_lst (pa_cons pe_int (pa_cons pe_int (pa_cons pe_int (pa_cons (pcall G__law_draw hr (T.glo "_law_draw" (by decide +kernel)) (pa_cons (pv 0) (pa_cons pe_int pa_nil))) pa_nil))))) (pcall G__law_draw hr (T.glo "_law_draw" (by decide +kernel)) (pa_cons (pv 0) (pa_cons pe_int pa_nil))) (fun _ _ => rfl)) rfl)))
    (pss_one (ps_ret (pv 4)))))), ?_⟩
  have zl := line_big
  refine sq ?_
  walk_at "wp"
  refine ⟨by omega, fun p np => ?_⟩
  have s1 := same_new np (.lst [V.str "main"])
  refine ⟨s, p, 14, ["main"], rfl, hs.same s1, upd_same, by decide, by decide, fun H2 r ws X2 hs2 nr er lw hwn hnd => ?_⟩
  have X12 := (SX.of s1 (p := s)).trans X2
  refine sq ?_
  walk_at "wp"
  refine ⟨s, 4, rfl, hs2, by decide, by decide, fun H3 d3 X3 hs3 hd3 => ⟨_, rfl, ?_⟩⟩
  have nrs := strs_ne_src er hs2
  have er3 := X3.x _ _ nrs er
  have X13 := X12.trans X3
  refine ⟨r, _, rfl, .of er3, fun cr ncr => ?_⟩
  have lw' : (ws.map V.str).length = 14 := by rw [List.length_map]; exact lw
  have e6 : cutV (ws.map V.str) (some 6) (some (6 + (d3 : Nat))) = ((ws.drop 6).take d3).map V.str := by
    rw [show ((6 : Int) + (d3 : Nat)) = ((6 + d3 : Nat) : Int) by omega, show (6 : Int) = ((6 : Nat) : Int) from rfl, cut_mid (by omega) (by omega), List.map_take, List.map_drop, show 6 + d3 - 6 = d3 by omega]
  rw [e6]
  have s4 := same_new ncr (.lst (((ws.drop 6).take d3).map V.str))
  have ecr : (upd H3 cr (.lst (((ws.drop 6).take d3).map V.str))) cr = some (.lst (((ws.drop 6).take d3).map V.str)) := upd_same
  have er4 := s4 _ _ er3
  have hs4 := hs3.same s4
  have X14 := X13.trans (.of s4)
  generalize upd H3 cr (.lst (((ws.drop 6).take d3).map V.str)) = H4 at ecr er4 hs4 X14 ⊢
  refine sq ?_
  walk_at "wp"
  intro wa nwa
  have s5 := same_new nwa (.dK [])
  refine ⟨r, _, rfl, .of (s5 _ _ er4), fun n nn => ?_⟩
  have e4 : cutV (ws.map V.str) none (some 4) = (ws.take 4).map V.str := by
    rw [show (4 : Int) = ((4 : Nat) : Int) from rfl, cut_take (by omega), List.map_take]
  rw [e4]
  have s6 := same_new nn (.lst ((ws.take 4).map V.str))
  refine ⟨r, _, rfl, .of (s6 _ _ (s5 _ _ er4)), fun k nk => ?_⟩
  have e46 : cutV (ws.map V.str) (some 4) (some 6) = ((ws.drop 4).take 2).map V.str := by
    rw [show (4 : Int) = ((4 : Nat) : Int) from rfl, show (6 : Int) = ((6 : Nat) : Int) from rfl, cut_mid (by omega) (by omega), List.map_take, List.map_drop]
  rw [e46]
  have s7 := same_new nk (.lst (((ws.drop 4).take 2).map V.str))
  intro z nz
  have s8 := same_new nz (.dK [])
  refine ⟨s8 _ _ (s7 _ _ (s6 _ _ upd_same)), WorldK n k cr z left, rfl, by show 5 ≤ 15; omega, ?_⟩
  rw [show mergeK [] (WorldK n k cr z left) = WorldK n k cr z left from rfl]
  have n1 : n ≠ wa := by rintro rfl; rw [upd_same] at nn; cases nn
  have k1 : k ≠ wa := by rintro rfl; rw [s6 _ _ upd_same] at nk; cases nk
  have z1 : z ≠ wa := by rintro rfl; rw [s7 _ _ (s6 _ _ upd_same)] at nz; cases nz
  have c1 : cr ≠ wa := ne_new ecr nwa
  have en8 := s8 _ _ (s7 _ _ (upd_same (H := upd H4 wa (.dK [])) (a := n) (o := .lst ((ws.take 4).map V.str))))
  have ek8 := s8 _ _ (upd_same (H := upd (upd H4 wa (.dK [])) n (.lst ((ws.take 4).map V.str))) (a := k) (o := .lst (((ws.drop 4).take 2).map V.str)))
  have ez8 := upd_same (H := upd (upd (upd H4 wa (.dK [])) n (.lst ((ws.take 4).map V.str))) k (.lst (((ws.drop 4).take 2).map V.str))) (a := z) (o := .dK [])
  have ecr8 := s8 _ _ (s7 _ _ (s6 _ _ (s5 _ _ ecr)))
  have er8 := s8 _ _ (s7 _ _ (s6 _ _ (s5 _ _ er4)))
  have s48 := ((s5.trans s6).trans s7).trans s8
  generalize upd (upd (upd (upd H4 wa (.dK [])) n (.lst ((ws.take 4).map V.str))) k (.lst (((ws.drop 4).take 2).map V.str))) z (.dK []) = H8 at en8 ek8 ez8 ecr8 er8 s48 ⊢
  have s49 : Same H4 (upd H8 wa (.dK (WorldK n k cr z left))) := fun b u e => by
    rw [upd_ne (ne_new e nwa)]
    exact s48 _ _ e
  have ew9 := upd_same (H := H8) (a := wa) (o := .dK (WorldK n k cr z left))
  have en9 : (upd H8 wa (.dK (WorldK n k cr z left))) n = some (.lst ((ws.take 4).map V.str)) := by rw [upd_ne n1]; exact en8
  have ek9 : (upd H8 wa (.dK (WorldK n k cr z left))) k = some (.lst (((ws.drop 4).take 2).map V.str)) := by rw [upd_ne k1]; exact ek8
  have ez9 : (upd H8 wa (.dK (WorldK n k cr z left))) z = some (.dK []) := by rw [upd_ne z1]; exact ez8
  have ec9 : (upd H8 wa (.dK (WorldK n k cr z left))) cr = some (.lst (((ws.drop 6).take d3).map V.str)) := by rw [upd_ne c1]; exact ecr8
  have er9 := s49 _ _ er4
  have hs9 := hs4.same s49
  have X19 := X14.trans (.of s49)
  generalize upd H8 wa (.dK (WorldK n k cr z left)) = H9 at s49 ew9 en9 ek9 ez9 ec9 er9 hs9 X19 ⊢
  refine sq ?_
  walk_at "wp"
  refine ⟨by omega, fun pm npm => ?_⟩
  have s10 := same_new npm (.lst [V.str "main"])
  refine ⟨s, 4, rfl, hs9.same s10, by decide, by decide, fun H11 d11 X11 hs11 hd11 => ⟨_, rfl, ?_⟩⟩
  have er11 := X11.x _ _ nrs (s10 _ _ er9)
  have epm11 := X11.x _ _ (hs9.new npm) (upd_same (H := H9) (a := pm) (o := .lst [V.str "main"]))
  refine ⟨r, _, rfl, .of er11, fun gl ngl => ?_⟩
  have e9 : cutV (ws.map V.str) (some 9) (some (9 + (d11 : Nat))) = ((ws.drop 9).take d11).map V.str := by
    rw [show ((9 : Int) + (d11 : Nat)) = ((9 + d11 : Nat) : Int) by omega, show (9 : Int) = ((9 : Nat) : Int) from rfl, cut_mid (by omega) (by omega), List.map_take, List.map_drop, show 9 + d11 - 9 = d11 by omega]
  rw [e9]
  have s12 := same_new ngl (.lst (((ws.drop 9).take d11).map V.str))
  have lg : ((ws.drop 9).take d11).length = d11 := by rw [List.length_take, List.length_drop]; omega
  refine ⟨pm, gl, _, _, rfl, rfl, s12 _ _ epm11, upd_same, by rw [List.length_map, lg]; simp; omega, fun gg ngg => ?_⟩
  have s13 := same_new ngg (.lst ([V.str "main"] ++ ((ws.drop 9).take d11).map V.str))
  have s123 := s12.trans s13
  refine ⟨s, gg, "main" :: (ws.drop 9).take d11, rfl, hs11.same s123, upd_same, by rw [List.length_cons, lg]; omega, fun H14 rr ys X14' hs14 nrr err pmm => ?_⟩
  have X9 : SX s H9 H14 := (((SX.of s10).trans X11).trans (.of s123)).trans X14'
  have nws : wa ≠ s := by rintro rfl; obtain ⟨_, _, e, _⟩ := hs9; rw [ew9] at e; cases e
  have nzs : z ≠ s := by rintro rfl; obtain ⟨_, _, e, _⟩ := hs9; rw [ez9] at e; cases e
  have ew14 := X9.x _ _ nws ew9
  have en14 := X9.x _ _ (strs_ne_src en9 hs9) en9
  have ek14 := X9.x _ _ (strs_ne_src ek9 hs9) ek9
  have ec14 := X9.x _ _ (strs_ne_src ec9 hs9) ec9
  have ez14 := X9.x _ _ nzs ez9
  have X114 := X19.trans X9
  have nrrs := strs_ne_src err hs14
  have nrrz : rr ≠ z := by
    have ez13 := s123 _ _ (X11.x _ _ nzs (s10 _ _ ez9))
    exact Ne.symm (ne_new ez13 nrr)
  have lys : ys.length = d11 + 1 := by rw [pmm.length_eq, List.length_cons, lg]
  have hndw : (("main" : Str) :: ws).Nodup := hnd
  have hsub : (("main" : Str) :: (ws.drop 9).take d11).Nodup := hndw.sublist (List.Sublist.cons₂ _ ((List.take_sublist _ _).trans (List.drop_sublist _ _)))
  have hysn : ys.Nodup := pmm.nodup_iff.mpr hsub
  refine ⟨rr, rfl, ⟨_, .of err⟩, ?_⟩
  refine forGo (walk_list (xs := ys.map V.str)) (fun i σ H' => ∃ x5, σ = [some (V.ref s), some (V.int left), some (V.ref r), some (V.ref cr), some (V.ref wa), x5] ∧ SizesI H14 s z ys i H')
    ⟨_, rfl, [], rfl, (fun m hm => by cases hm), ⟨fun _ _ _ _ e => e, .refl _⟩, hs14, ez14⟩ (fun i σ H' _ ⟨x5, _, ms, _, _, X, _⟩ => .of (X.x _ _ nrrs nrrz err)) ?_ ?_
  · rintro i y σ H15 H16 hi ⟨x5, rfl, ms, lm, hm, X15, hs15, ez15⟩ ⟨eH, ey⟩
    subst eH
    obtain ⟨g, eg, rfl⟩ := strs_get ey
    rw [List.length_map] at hi
    simp only [sDPut]
    walk_at "wp"
    refine ⟨s, 5, rfl, hs15, by decide, by decide, fun H17 d17 X17 hs17 hd17 => ⟨by omega, fun pl npl => ?_⟩⟩
    have s18 := same_new npl (.lst [V.int 0, V.int 1, V.int 2, V.int (d17 : Nat)])
    refine ⟨s, 4, rfl, hs17.same s18, by decide, by decide, fun H19 d19 X19' hs19 hd19 => ?_⟩
    have hN : ∃ N : Nat, ([V.int 0, V.int 1, V.int 2, V.int (d17 : Nat)] : List V)[d19]? = some (V.int (N : Nat)) ∧ N ≤ 4 := by
      have h4 : d19 = 0 ∨ d19 = 1 ∨ d19 = 2 ∨ d19 = 3 := by omega
      rcases h4 with rfl | rfl | rfl | rfl
      · exact ⟨0, rfl, by decide⟩
      · exact ⟨1, rfl, by decide⟩
      · exact ⟨2, rfl, by decide⟩
      · exact ⟨d17, rfl, by omega⟩
    obtain ⟨N, eN, N4⟩ := hN
    have Xs := (X17.trans (.of s18)).trans X19'
    have X19 := X15.trans (.of Xs)
    have ez19 := Xs.x _ _ nzs ez15
    have nwz : wa ≠ z := by rintro rfl; rw [ew14] at ez14; cases ez14
    refine ixL_at d19 (.of (X19'.x _ _ (hs17.new npl) upd_same)) eN ?_
    have ezl : ((ys.take i).zip ms).map Prod.fst = ys.take i := List.map_fst_zip (by rw [List.length_take]; omega)
    have hnot : g ∉ ((ys.take i).zip ms).map Prod.fst := by
      rw [ezl]
      intro zz
      have := nodup_take hysn eg
      rw [List.contains_iff_mem.mpr zz] at this
      cases this
    refine ⟨_, wget (X19.x _ _ nws nwz ew14) wk_sizes, z, rfl, _, .k (k := .inr g) ez19 (by unfold sizesK; rw [List.length_map, List.length_zip, List.length_take]; omega), ?_⟩
    rw [put_sizes hnot]
    refine ⟨ms ++ [N], by rw [List.length_append]; simp; omega, fun m hm' => ?_, X19.trans (.putD ez19 _), hs19.upd nzs, ?_⟩
    · rcases List.mem_append.mp hm' with h | h
      · exact hm m h
      · rw [List.mem_singleton.mp h]; exact N4
    · rw [upd_same, List.take_add_one, eg, Option.toList_some, List.zip_append (by rw [List.length_take]; omega)]
      rfl
  · rintro σ H15 ⟨x5, rfl, ms, lm, hm, X15, hs15, ez15⟩
    walk_at "wp"
    rw [List.length_map] at lm
    rw [List.length_map, List.take_of_length_le (Nat.le_refl _)] at ez15
    have hzH : H z = none := none_sx X14 trivial (none_of ((s5.trans s6).trans s7) nz) nzs
    have hwH : H wa = none := none_sx X14 trivial nwa nws
    have XF : SX s H H15 := ⟨fun b u hb e => X15.x b u hb (ne_new e hzH) (X114.x b u hb e), X114.t.trans X15.t⟩
    have nwz : wa ≠ z := by rintro rfl; rw [ew14] at ez14; cases ez14
    have nnz : n ≠ z := by rintro rfl; rw [en14] at ez14; cases ez14
    have nkz : k ≠ z := by rintro rfl; rw [ek14] at ez14; cases ez14
    have ncz : cr ≠ z := by rintro rfl; rw [ec14] at ez14; cases ez14
    have ezk : (ys.zip ms).map Prod.fst = ys := List.map_fst_zip (by omega)
    have hwsn : ws.Nodup := (List.nodup_cons.mp hndw).2
    have hyname : ∀ y ∈ ys, nameB y = true := fun y hy => by
      rcases List.mem_cons.mp (pmm.mem_iff.mp hy) with rfl | h
      · decide +kernel
      · exact hwn y (List.mem_of_mem_drop (List.mem_of_mem_take h))
    refine q H15 wa ⟨ws.take 4, (ws.drop 4).take 2, (ws.drop 6).take d3, ys.zip ms⟩ XF hs15 hwH ⟨n, k, cr, z, X15.x _ _ nws nwz ew14, X15.x _ _ (strs_ne_src en14 hs14) nnz en14, X15.x _ _ (strs_ne_src ek14 hs14) nkz ek14, X15.x _ _ (strs_ne_src ec14 hs14) ncz ec14, ez15⟩ ?_
    exact {
      n4 := by show (ws.take 4).length = 4; rw [List.length_take]; omega
      k2 := by show ((ws.drop 4).take 2).length = 2; rw [List.length_take, List.length_drop]; omega
      c3 := by show ((ws.drop 6).take d3).length ≤ 3; rw [List.length_take]; omega
      names := fun x hx => hwn x (List.mem_of_mem_take hx)
      nnd := hwsn.sublist (List.take_sublist _ _)
      keys := fun x hx => hwn x (List.mem_of_mem_drop (List.mem_of_mem_take hx))
      crates := fun x hx => hwn x (List.mem_of_mem_drop (List.mem_of_mem_take hx))
      cnd := hwsn.sublist ((List.take_sublist _ _).trans (List.drop_sublist _ _))
      z1 := by show 1 ≤ (ys.zip ms).length; rw [List.length_zip]; omega
      z4 := by show (ys.zip ms).length ≤ 4; rw [List.length_zip]; omega
      zn := fun qq hq => ⟨hyname _ (List.of_mem_zip (a := qq.1) (b := qq.2) hq).1, hm _ (List.of_mem_zip (a := qq.1) (b := qq.2) hq).2⟩
      znd := by show ((ys.zip ms).map Prod.fst).Nodup; rw [ezk]; exact hysn
      zmain := by show ("main" : Str) ∈ (ys.zip ms).map Prod.fst; rw [ezk]; exact pmm.mem_iff.mpr List.mem_cons_self }
end
end K91
set_option Elab.async false
set_option linter.all false
set_option maxRecDepth 100000
set_option maxHeartbeats 8000000
namespace K91
open PySem PySem.Spec PyProof.Rows L2
local macro_rules | `(tactic| walk_at "wp") => `(tactic| try simp only [cxK, cxw, cxK', cxw', start1, start2, start3, start4, start5, tRet, tRetN, tAsg, gName, gTup, gCons, gNil, gSub, tDrop, tNext, tIfS, tIf, tVar, tC, tAndV, tOrV, tNotV, tAnd, tOr, tNot, tTest, tB, tCB, tCons, tNil, tOp, tUn, rI0, rI, rU, rEq, rNe, rIn, tChain, tFld, sFld, tSl, tPart, tNoPart, tTup, tLst, tCallR, tMethR, tMethO, tBM, tBM0, tM0, tM1, tDGet, tDIn, tDNotIn, tDNewK, tCmp, t2I, tIsN, tNotN, tYes, tLc_eq, tFor_eq, tLenSetN, iItems, iVals, iKeys, iRng1, tLock, tLockE, tCallKw, tMakeKw, tMethKw, StX.tMakeR, tDc_eq, tLc2_eq, sFldAug, rMulS, tListVals, LiI.tListItems, LiI.rItemsL, RZ.iZipA, iStr, iTup, iList, iEnum, iEnumT, tDGet1, tDGet2, tDisp, tPairs, wipe, List.map_cons, List.map_nil,
  List.length_cons, List.length_nil, Nat.reduceAdd, Nat.reduceSub, List.replicate_succ, List.replicate_zero, if_true, if_false, Bool.not_true, Bool.not_false, Bool.false_eq_true, reduceIte,
  List.set_cons_zero, List.set_cons_succ, List.getElem?_cons_zero, List.getElem?_cons_succ, Option.some.injEq, exists_eq_left', exists_eq_left, V.int.injEq, V.str.injEq, V.bl.injEq, V.ref.injEq, V.ty.injEq, List.cons.injEq, and_true, true_and, and_assoc, exists_and_left, List.nil_append, List.cons_append, List.append_nil])
local macro_rules | `(tactic| walk_at "st") => `(tactic| (refine sq ?_; walk_at "wp"))
section
variable {P : Program} {w : World} {K : PySem.W.Frag} {mg : Str → Option Value} {base : Heap}
def WrI (H HL : Hp) (ta D : Addr) (od : Obj) (kz : List (Key × V)) (fs : List Fn91) (bs : List Box91) (i : Nat) (H' : Hp) : Prop := (∀ b u, b ≠ ta → H b = some u → H' b = some u) ∧ Tups HL H' ∧ StrsL H' D (bs.map boxLine ++ (fs.take i).flatMap fnLines) ∧ H' ta = some (.frz od (.dK kz))
def spWritten (K : PySem.W.Frag) : Sp := fun vs H Q _ => ∃ ta la fs bs, vs = [.ref ta, .ref la] ∧ TabAt K H ta fs ∧ RowsAt K H la bs ∧ LawP fs bs ∧ ∀ H', Same H H' → Q (.str (progText fs bs)) H'
theorem ok__law_written (T : Top K mg w)  : FnR P w K mg base CX0 20 (He.ga K "_law_written") (spWritten K) := by
  obtain ⟨fd, F⟩ := T.def_ d__law_written (List.mem_of_getElem? (i := 71) rfl)
  refine mkR F sc__law_written (fun _ _ _ _ _ _ us hl => match us, hl with | [_, _], _ => rfl) (fun vs H Q E h => ?_) (fun cdv A outer s H vs Q E hr h => ?_)
  · obtain ⟨ta, la, fs, bs, rfl, _⟩ := h; rfl
  obtain ⟨ta, la, fs, bs, rfl, hT, hR, lp, q⟩ := h
  have G__law_rows := ok__law_rows (P := P) (w := w) (base := base) T 8
  refine ⟨_, pss_cons (ps_setLc (i := 2) (own := [("_law_row", 4)]) (g := (gName 4)) (tt := tYes) rfl sc__law_written.nd rfl rfl (sw_true rfl rfl rfl (by decide +kernel)) (pi_list (pv 1)) (blkOk_by (own := [("_law_row", 4)]) (N := ["_law_table", "_law_rows_here", "_law_lines", "_law_goal", "_law_row", "_law_line_here"]) (sc := defScope s__law_written) (by decide +kernel)) (fun _ _ _ _ _ => (pg_name (i := 4) sc__law_written.nd rfl (by first | exact Or.inl rfl | exact Or.inr rfl))) (fun _ _ _ _ _ => pts_nil) (fun _ _ _ _ _ => (pe_op op_add_str (pe_op op_add_str (pe_op op_add_str (pe_op op_add_str (pe_op op_add_str pe_str (pe_ix (r := rIxT K) ix_tup (pv 4) pe_int (fun _ _ => rfl))) pe_str) (pe_ix (r := rIxT K) ix_tup (pv 4) pe_int (fun _ _ => rfl))) pe_str) (pe_callTy call_strU (by rfl) (T.free "str" (by decide +kernel)) (by decide +kernel) (pa_cons (pe_ix (r := rIxT K) ix_tup (pv 4) pe_int (fun _ _ => rfl)) pa_nil)))))
    (pss_cons (ps_lock (ps_for PassesOwn.never rfl (pi_keys (pv 0)) (pg_name (i := 3) sc__law_written.nd rfl (by first | exact Or.inl rfl | exact Or.inr rfl))
    (pss_cons (ps_expr (pe_bm PySem.F.plainAttrs_list PySem.F.slot_list_append PySem.F.type_list_append mt_append (pv 2) (pa_cons (pe_join pe_str (pe_op op_cat (pe_lst (pa_cons pe_str (pa_cons (pv 3) pa_nil))) (pe_callTy call_list_of (by rfl) (T.free "list" (by decide +kernel)) (by decide +kernel) (pa_cons (pe_ix (r := rIxT K) ix_tup (pe_dget (hu_of hr) (pv 0) (pv 3) (fun _ _ => rfl)) pe_int (fun _ _ => rfl)) pa_nil)))) pa_nil)))
    (pss_one (ps_expr (pe_bm PySem.F.plainAttrs_list PySem.F.slot_list_extend PySem.F.type_list_extend mt_extend (pv 2) (pa_cons (pcall G__law_rows hr (T.glo "_law_rows" (by decide +kernel)) (pa_cons (pe_ix (r := rIxT K) ix_tup (pe_dget (hu_of hr) (pv 0) (pv 3) (fun _ _ => rfl)) pe_int (fun _ _ => rfl)) (pa_cons pe_str pa_nil))) pa_nil)))))))
    (pss_one (ps_ret (pe_join pe_str (pe_lc (own := [("_law_line_here", 5)]) (g := (gName 5)) (tt := tYes) rfl sc__law_written.nd (pi_list (pv 2)) (blkOk_by (own := [("_law_line_here", 5)]) (N := ["_law_table", "_law_rows_here", "_law_lines", "_law_goal", "_law_row", "_law_line_here"]) (sc := defScope s__law_written) (by decide +kernel)) (fun _ _ _ _ _ => (pg_name (i := 5) sc__law_written.nd rfl (by first | exact Or.inl rfl | exact Or.inr rfl))) (fun _ _ _ _ _ => pts_nil) (fun _ _ _ _ _ => (pe_op op_add_str (pv 5) pe_str))))))), ?_⟩
  have zl := line_big
  obtain ⟨rv1, hrv, hB⟩ := hR
  have lb := dta_len hB
  rw [List.length_map] at lb
  obtain ⟨o1, o2, o3, o4, o5⟩ := lp.fmt
  walk_at "st"
  obtain ⟨kvs, eT, hTd⟩ := hT
  have lk := dta_len hTd
  rw [List.length_map] at lk
  have nd := o1.2.2.2.1
  refine ⟨⟨_, .of hrv⟩, lcGo (walk_list (xs := rv1)) (fun i acc _ => acc = ((bs.take i).map boxLine).map V.str) (fun _ _ => rfl) (fun H' s' => .of (s' _ _ hrv)) ?_ ?_⟩
  · rintro D i x acc H2 H3 nD hi s2 eD la' ra ⟨eH, ex⟩
    subst eH
    obtain ⟨d, ed, gd⟩ := dta_of (hB.keep (tups_of s2)) ex
    obtain ⟨bx, eb, rfl⟩ := Option.map_eq_some_iff.mp (by rw [← List.getElem?_map]; exact ed)
    obtain ⟨b1, b2, b3, b4⟩ := o2.2.1 bx (List.mem_of_getElem? eb)
    obtain ⟨a', xs, rfl, hT', hX⟩ := gd.tupI
    obtain ⟨v0, _, rfl, k0, hX⟩ := hX.consI
    obtain ⟨v1, _, rfl, k1, hX⟩ := hX.consI
    obtain ⟨v2, _, rfl, k2, hX⟩ := hX.consI
    obtain rfl := hX.nilI
    obtain ⟨rfl, z0⟩ := k0.strI
    obtain ⟨rfl, z1⟩ := k1.strI
    obtain rfl := k2.intI
    have n0 := name_len b1
    have n1 := rule_len b2
    have n2 := limit_abs b3 b4
    have n3 := int_len _ n2
    have z : ∀ k : Nat, k ≤ 1000000 → k ≤ sizeLine := fun k h => by omega
    have e2' : (("box " : String) : Str).length = 4 := rfl
    have e3' : ((" " : String) : Str).length = 1 := rfl
    have eb' : boxLine bx = "box " ++ bx.name ++ " " ++ bx.rule ++ " " ++ ((toString bx.val : String) : Str) := by
      unfold boxLine
      rw [Str.empty_append]
    walk_at "wp"
    refine ixT_at 0 hT' rfl ⟨_, rfl, z _ (by omega), z _ (by simp only [Str.length_append, e2', e3']; omega), ixT_at 1 hT' rfl ⟨_, rfl, z _ (by simp only [Str.length_append, e2', e3']; omega), z _ (by simp only [Str.length_append, e2', e3']; omega), ixT_at 2 hT' rfl (.inr ⟨_, rfl, int_log _ n2, z _ (by simp only [Str.length_append, e2', e3']; omega), acc, eD, by have := o2.1; omega, .step nD s2 la' ?_⟩)⟩⟩
    show acc ++ _ = _
    rw [ra, List.take_add_one, eb, List.map_append, List.map_append, ← eb']
    rfl
  rintro D acc H2 nD s2 eD la' ra
  have hD : StrsL H2 D (bs.map boxLine) := by rw [StrsL, eD, ra, List.take_of_length_le (by omega)]
  have nDH : H D = none := nD
  have nDt : D ≠ ta := Ne.symm (ne_new eT nD)
  walk_at "st"
  refine ⟨ta, _, s2 _ _ eT, trivial, fun od => ?_⟩
  have tL := tups_put (.frz od (.dK (kvz (fs.map Fn91.name) kvs))) (s2 _ _ eT) (fun _ z => by cases z) fun _ _ z => by cases z
  have eL : (upd H2 ta (.frz od (.dK (kvz (fs.map Fn91.name) kvs)))) ta = some (.frz od (.dK (kvz (fs.map Fn91.name) kvs))) := upd_same
  have hDL : StrsL (upd H2 ta (.frz od (.dK (kvz (fs.map Fn91.name) kvs)))) D (bs.map boxLine) := by rw [StrsL, upd_ne nDt]; exact hD
  have xL : ∀ b u, b ≠ ta → H b = some u → (upd H2 ta (.frz od (.dK (kvz (fs.map Fn91.name) kvs)))) b = some u := fun b u hb e => by rw [upd_ne hb]; exact s2 _ _ e
  refine ⟨od, .inl ⟨_, upd_same, ?_⟩⟩
  generalize upd H2 ta (.frz od (.dK (kvz (fs.map Fn91.name) kvs))) = HL at tL eL hDL xL ⊢
  have hTL := (hTd.keep (tups_of s2)).keep tL
  have hll : ∀ i, (((bs.map boxLine) ++ (fs.take i).flatMap fnLines)).length ≤ 100000 := fun i => by
    have := flat_take_le fnLines fs i
    have o4' := o4
    unfold progLines at o4'
    rw [List.length_append] at o4' ⊢
    omega
  refine forGo walk_keys (fun i σ H' => ∃ x3, σ = [some (V.ref ta), some (V.ref la), some (V.ref D), x3, none, none] ∧ WrI H HL ta D od (kvz (fs.map Fn91.name) kvs) fs bs i H')
    ⟨_, rfl, xL, .refl _, by rw [List.take_zero, List.flatMap_nil, List.append_nil]; exact hDL, eL⟩ (fun i σ H' _ ⟨_, _, _, _, _, e⟩ => e) ?_ ?_
  · rintro i y σ H3 H4 hi ⟨x3, rfl, x4, t4, hD4, eT4⟩ ⟨eH, k', v', ek', ex⟩
    subst eH ex
    obtain ⟨g, eg, ek, ev⟩ := kvz_of ek'
    simp only at ek ev
    subst ek
    rw [List.getElem?_map] at eg
    obtain ⟨f, ef, rfl⟩ := Option.map_eq_some_iff.mp eg
    have fm := List.mem_of_getElem? ef
    obtain ⟨f1, f2, f3, f4, f5⟩ := o1.2.2.1 f fm
    have hl1 := hll (i + 1)
    rw [flat_take_succ _ ef, List.length_append, List.length_append] at hl1
    have efl : fnLines f = headLine f :: bodyT 8 1 f.body := rfl
    rw [efl, List.length_cons, List.length_map] at hl1
    obtain ⟨d, hd', gd⟩ := dta_of (hTL.keep t4) ev
    rw [List.getElem?_map, ef] at hd'
    obtain rfl := (Option.some.inj hd').symm
    obtain ⟨aS, xS, rfl, hTs, hAs⟩ := gd.tupI
    obtain ⟨v0, _, rfl, k0, hAs⟩ := hAs.consI
    obtain ⟨v1, _, rfl, k1, hAs⟩ := hAs.consI
    obtain rfl := hAs.nilI
    obtain ⟨aH, xH, rfl, hTh, hAh⟩ := k0.tupI
    obtain rfl := dta_strs hAh
    have hval : valV (kvz (fs.map Fn91.name) kvs) (.inr f.name) = some (V.ref aS) := kvz_val nd (by rw [List.getElem?_map, ef]; rfl) ev
    have dget : ∀ H', H' ta = some (.frz od (.dK (kvz (fs.map Fn91.name) kvs))) → DGet H' ta (.str f.name) (some (V.ref aS)) := fun H' e => .inl ⟨_, .inr f.name, .inr ⟨od, e⟩, rfl, hval.symm⟩
    show _
    walk_at "st"
    refine ⟨tyL hD4, ⟨_, rfl⟩, by decide, fun lq nlq => ?_⟩
    have s5 := same_new nlq (.lst [V.str "function", V.str f.name])
    have e5 := upd_same (H := H4) (a := lq) (o := .lst [V.str "function", V.str f.name])
    rw [show kV (Sum.inr f.name) = V.str f.name from rfl]
    generalize upd H4 lq (.lst [V.str "function", V.str f.name]) = H5 at s5 e5 ⊢
    refine ⟨_, dget _ (s5 _ _ eT4), ixT_at 0 ((tups_of s5).sqT hTs) rfl ⟨aH, rfl, _, .inr ((tups_of s5).sqT hTh), fun cl ncl => ?_⟩⟩
    have s6 := same_new ncl (.lst (f.heads.map V.str))
    have e6 := upd_same (H := H5) (a := cl) (o := .lst (f.heads.map V.str))
    have e56 := s6 _ _ e5
    generalize upd H5 cl (.lst (f.heads.map V.str)) = H6 at s6 e6 e56 ⊢
    refine ⟨lq, cl, _, _, rfl, rfl, e56, e6, by simp; omega, fun r nr => ?_⟩
    have s7 := same_new nr (.lst ([V.str "function", V.str f.name] ++ f.heads.map V.str))
    have e7 := upd_same (H := H6) (a := r) (o := .lst ([V.str "function", V.str f.name] ++ f.heads.map V.str))
    generalize upd H6 r (.lst ([V.str "function", V.str f.name] ++ f.heads.map V.str)) = H7 at s7 e7 ⊢
    have s47 := s5.trans (s6.trans s7)
    refine ⟨r, rfl, (("function" : String) : Str) :: f.name :: f.heads, .inl (.of e7), ?_, ?_⟩
    · have hx : ∀ x ∈ (("function" : String) : Str) :: f.name :: f.heads, Str.length x ≤ 8 := by
        intro x hx
        rcases List.mem_cons.mp hx with rfl | hx
        · decide
        · rcases List.mem_cons.mp hx with rfl | hx
          · exact name_len f1
          · exact name_len (f3 x hx)
      have := sum_le hx
      have e1' : ((" " : String) : Str).length = 1 := rfl
      rw [e1']
      simp only [List.length_cons] at this ⊢
      omega
    have hD7 := s47 _ _ hD4
    have eT7 := s47 _ _ eT4
    refine app_ask hD7 (by rw [List.length_map, List.length_append, List.length_map]; omega) ?_
    have t8 := (tups_of s47).trans (tups_lst hD7 (.lst ((bs.map boxLine ++ (fs.take i).flatMap fnLines).map V.str ++ [.str (headLine f)])))
    have e8 : StrsL (upd H7 D (.lst ((bs.map boxLine ++ (fs.take i).flatMap fnLines).map V.str ++ [.str (headLine f)]))) D (bs.map boxLine ++ (fs.take i).flatMap fnLines ++ [headLine f]) := by rw [StrsL, upd_same]; simp
    have eT8 : (upd H7 D (.lst ((bs.map boxLine ++ (fs.take i).flatMap fnLines).map V.str ++ [.str (headLine f)]))) ta = some (.frz od (.dK (kvz (fs.map Fn91.name) kvs))) := by rw [upd_ne (Ne.symm nDt)]; exact eT7
    have x8 : ∀ b u, b ≠ ta → H b = some u → (upd H7 D (.lst ((bs.map boxLine ++ (fs.take i).flatMap fnLines).map V.str ++ [.str (headLine f)]))) b = some u := fun b u hb e => by rw [upd_ne (ne_new e nD)]; exact s47 _ _ (x4 b u hb e)
    rw [show Txt.join (" " : String) ((("function" : String) : Str) :: f.name :: f.heads) = headLine f from rfl]
    generalize upd H7 D (.lst ((bs.map boxLine ++ (fs.take i).flatMap fnLines).map V.str ++ [.str (headLine f)])) = H8 at t8 e8 eT8 x8 ⊢
    refine ⟨tyL e8, _, dget _ eT8, ixT_at 1 (t8.sqT hTs) rfl ⟨v1, f.body, 1, 0, _, by rw [show Txt.mul ("  " : String) ((1 : Nat) : Int) = "  " by decide +kernel], k1.keep t8, o3 f fm, lp.body f fm, by omega, by omega, fun H9 bl s9 nbl ebl => ?_⟩⟩
    have hD9 := s9 _ _ e8
    refine ext_ask hD9 ebl (by simp only [List.length_append, List.length_map, List.length_cons, List.length_nil]; omega) ?_
    refine ⟨fun b u hb e => by rw [upd_ne (ne_new e nD)]; exact s9 _ _ (x8 b u hb e), ((t4.trans t8).trans (tups_of s9)).trans (tups_lst hD9 _), ?_, by rw [upd_ne (Ne.symm nDt)]; exact s9 _ _ eT8⟩
    rw [StrsL, upd_same, flat_take_succ _ ef, efl]
    simp
  · rintro σ H3 ⟨x3, rfl, x4, t4, hD4, eT4⟩
    rw [List.take_of_length_le (by rw [kvz_len (by rw [List.length_map]; exact lk), List.length_map]; exact Nat.le_refl _)] at hD4
    have nDta := nDt
    have hPL : StrsL (upd H3 ta (.dK (kvz (fs.map Fn91.name) kvs))) D (progLines fs bs) := by
      rw [StrsL, upd_ne nDt]; exact hD4
    have sF : Same H (upd H3 ta (.dK (kvz (fs.map Fn91.name) kvs))) := fun b u e => by
      by_cases hb : b = ta
      · subst hb; rw [upd_same, ← eT, e]
      · rw [upd_ne hb]; exact x4 b u hb e
    refine ⟨eT4, ⟨_, rfl⟩, V.ref D, rfl, D, rfl, ⟨_, .of hPL⟩, ?_⟩
    generalize upd H3 ta (.dK (kvz (fs.map Fn91.name) kvs)) = HF at hPL sF ⊢
    refine lcGo (walk_list (xs := (progLines fs bs).map V.str)) (fun i acc _ => acc = (((progLines fs bs).take i).map addNl).map V.str) (fun _ _ => rfl) (fun H' s' => .of (s' _ _ hPL)) ?_ ?_
    · rintro D2 i x acc H5 H6 nD2 hi s5 eD2 la' ra ⟨eH, ex⟩
      subst eH
      rw [List.length_map] at hi
      have el : (progLines fs bs)[i]? = some ((progLines fs bs)[i]'hi) := List.getElem?_eq_getElem hi
      have lm : ((progLines fs bs)[i]'hi).length ≤ 16000000 := by
        have := mem_le_sum (List.getElem_mem hi)
        omega
      generalize (progLines fs bs)[i]'hi = t at el lm
      obtain rfl : x = V.str t := by
        rw [List.getElem?_map, el] at ex
        exact (Option.some.inj ex).symm
      walk_at "wp"
      have zs : sizeLine = 16777216 := sizeLine_eq
      have e1' : (("\n" : String) : Str).length = 1 := rfl
      refine ⟨by omega, acc, eD2, by omega, .step nD2 s5 la' ?_⟩
      rw [ra, List.take_add_one, el, List.map_append, List.map_append]
      rfl
    · rintro D2 acc H5 nD2 s5 eD2 la' ra
      refine ⟨D2, rfl, (progLines fs bs).map addNl, .inl (.of ?_), ?_, q H5 (sF.trans s5)⟩
      · rw [eD2, ra, List.take_of_length_le (by simp)]
      · have e1' : (("" : String) : Str).length = 0 := rfl
        rw [e1', Nat.mul_zero, List.map_map]
        have e2' : ∀ l : List Str, (l.map ((fun x => Str.length x) ∘ addNl)).sum = (l.map (·.length)).sum + l.length := by
          intro l
          induction l with
          | nil => rfl
          | cons a r ih =>
            have e3' : (("\n" : String) : Str).length = 1 := rfl
            rw [List.map_cons, List.sum_cons, ih, List.map_cons, List.sum_cons, List.length_cons, Function.comp_apply]
            unfold addNl
            rw [Str.length_append, e3']
            omega
        rw [e2']
        omega
end
end K91
set_option Elab.async false
set_option linter.all false
set_option maxRecDepth 100000
set_option maxHeartbeats 8000000
namespace K91
open PySem PySem.Spec PyProof.Rows L2
local macro_rules | `(tactic| walk_at "wp") => `(tactic| try simp only [cxK, cxw, cxK', cxw', start1, start2, start3, start4, start5, tRet, tRetN, tAsg, gName, gTup, gCons, gNil, gSub, tDrop, tNext, tIfS, tIf, tVar, tC, tAndV, tOrV, tNotV, tAnd, tOr, tNot, tTest, tB, tCB, tCons, tNil, tOp, tUn, rI0, rI, rU, rEq, rNe, rIn, tChain, tFld, sFld, tSl, tPart, tNoPart, tTup, tLst, tCallR, tMethR, tMethO, tBM, tBM0, tM0, tM1, tDGet, tDIn, tDNotIn, tDNewK, tCmp, t2I, tIsN, tNotN, tYes, tLc_eq, tFor_eq, tLenSetN, iItems, iVals, iKeys, iRng1, tLock, tLockE, tCallKw, tMakeKw, tMethKw, StX.tMakeR, tDc_eq, tLc2_eq, sFldAug, rMulS, tListVals, LiI.tListItems, LiI.rItemsL, RZ.iZipA, iStr, iTup, iList, iEnum, iEnumT, tDGet1, tDGet2, tDisp, tPairs, wipe, List.map_cons, List.map_nil,
  List.length_cons, List.length_nil, Nat.reduceAdd, Nat.reduceSub, List.replicate_succ, List.replicate_zero, if_true, if_false, Bool.not_true, Bool.not_false, Bool.false_eq_true, reduceIte,
  List.set_cons_zero, List.set_cons_succ, List.getElem?_cons_zero, List.getElem?_cons_succ, Option.some.injEq, exists_eq_left', exists_eq_left, V.int.injEq, V.str.injEq, V.bl.injEq, V.ref.injEq, V.ty.injEq, List.cons.injEq, and_true, true_and, and_assoc, exists_and_left, List.nil_append, List.cons_append, List.append_nil])
local macro_rules | `(tactic| walk_at "st") => `(tactic| (refine sq ?_; walk_at "wp"))
section
variable {P : Program} {w : World} {K : PySem.W.Frag} {mg : Str → Option Value} {base : Heap}
theorem units65 {k : Nat} {A : Around} (r : Room (k + 1) A) : A.units + 65 < cLine := by have := r.un; omega
theorem items_dt {H : Hp} : ∀ {ns : List Str} {vs : List V} {ds : List PyData} {ts : List Addr}, (∀ n ∈ ns, n.length ≤ 100000) → DtAll K H vs ds → vs.length = ns.length → Paired (fun (t : Addr) (q : Key × V) => H t = some (.tup [kV q.1, q.2])) ts (kvz ns vs) →
    DtAll K H (ts.map V.ref) ((ns.zip ds).map fun q => .tuple [.str q.1, q.2])
  | [], _, _, _, _, _, _, pr => by
    cases pr
    exact .nil
  | n :: ns, v :: vs, _, ts, hz, .cons hd ht, hl, pr => by
    have e : kvz (n :: ns) (v :: vs) = (.inr n, v) :: kvz ns vs := rfl
    rw [e] at pr
    cases pr with
    | cons h1 h2 => exact .cons (.tup (.inl (.inl h1)) (.cons (.str n (hz n List.mem_cons_self)) (.cons hd .nil))) (items_dt (fun m hm => hz m (List.mem_cons_of_mem _ hm)) ht (by simpa using hl) h2)
theorem shaped_of {d : PyData} (h : shP 60 d) : SeqAt.shaped d = true := by
  unfold SeqAt.shaped
  rw [Bool.and_eq_true]
  exact ⟨h.1, decide_eq_true (by have := h.2; omega)⟩
theorem sh_list {m : Nat} {ds : List PyData} (h : ∀ d ∈ ds, shP m d) : shP (m + 1) (.list ds) :=
  ⟨by simp only [PyData.canLay0]; exact layAll fun d hd => (h d hd).1, by simp only [PyData.depth]; exact Nat.succ_le_succ (depAll fun d hd => (h d hd).2)⟩
theorem sh_heads {hs : List Str} (h : ∀ x ∈ hs, nameB x = true) : shP 1 (.tuple (hs.map .str)) := sh_tup fun d hd => by
  obtain ⟨x, hx, rfl⟩ := List.mem_map.mp hd
  exact sh_name _ (h x hx)
theorem sh_items {fs : List Fn91} (h : ∀ f ∈ fs, fnOk f) : shP 60 (.list (((fs.map Fn91.name).zip (fs.map fun f => .tuple (f.heads.map .str))).map fun q => .tuple [.str q.1, q.2])) := by
  refine (sh_list (m := 2) fun d hd => ?_).mono (by omega)
  obtain ⟨q, hq, rfl⟩ := List.mem_map.mp hd
  obtain ⟨i, hi, e⟩ := List.mem_iff_getElem.mp hq
  rw [List.getElem_zip] at e
  rw [List.length_zip, List.length_map, List.length_map] at hi
  have hm : fs[i]'(by omega) ∈ fs := List.getElem_mem _
  have ho := h _ hm
  rw [← e]
  refine sh_tup (m := 1) fun d hd => ?_
  simp only [List.getElem_map, List.mem_cons, List.not_mem_nil, or_false] at hd
  rcases hd with rfl | rfl
  · exact sh_name _ ho.1
  · exact sh_heads ho.2.2.1
theorem sh_rows {bs : List Box91} (h : ∀ b ∈ bs, boxOk b) : shP 60 (.list (bs.map Box91.data)) := by
  refine (sh_list (m := 1) fun d hd => ?_).mono (by omega)
  obtain ⟨b, hb, rfl⟩ := List.mem_map.mp hd
  have ho := h b hb
  refine sh_tup (m := 0) fun d hd => ?_
  simp only [List.mem_cons, List.not_mem_nil, or_false] at hd
  rcases hd with rfl | rfl | rfl
  · exact sh_name _ ho.1
  · refine sh_str _ ?_
    have z : ∀ q ∈ rulesL, q.cps.toList.all (fun c => decide (c < 1114112)) = true := by decide +kernel
    exact z _ ho.2.1
  · exact sh_int _ _
/-- == of two programs of the same parts -/
def ProgEq (K : PySem.W.Frag) (a b : Addr) (H : Hp) : Prop := ∃ fs bs, ProgAt K H a fs bs ∧ ProgAt K H b fs bs ∧ progOk fs bs
def spEqP (K : PySem.W.Frag) : Sp := spEq (ProgEq K)
theorem ok_Program___eq__ (T : Top K mg w) (TI : IsC K (He.ga K "Program")) : FnR P w K mg base CX0 3 (He.ma K (He.ga K "Program") "__eq__") (spEqP K) := by
  obtain ⟨fd, F⟩ := T.def_ d_Program___eq__ (List.mem_of_getElem? (i := 24) rfl)
  refine mkR F sc_Program___eq__ (fun _ _ _ _ _ _ us hl => match us, hl with | [_, _], _ => rfl) (fun vs H Q E h => ?_) (fun cdv A outer s H vs Q E hr h => ?_)
  · obtain ⟨a, b, rfl, _⟩ := h; rfl
  obtain ⟨a, b, rfl, ⟨fs, bs, hA, hB, o1, o2, o3, o4⟩, q⟩ := h
  refine ⟨_, pss_cons (ps_if (PW.pt (pw_or (pt_not (pt_val (pe_callB (r := rIsi K) call_isi (by rfl) (T.free "isinstance" (by decide +kernel)) (by decide +kernel) (pa_cons (pv 1) (pa_cons (pe_gref (T.glo "Program" (by decide +kernel)).1) pa_nil))))) (pw_or1 (pt_cmpR (op_neD hr.units) (LiI.pe_listItems rfl (pe_fld (pv 0) rfl) (by rfl) (T.free "list" (by decide +kernel)) rfl) (LiI.pe_listItems rfl (pe_fld (pv 1) rfl) (by rfl) (T.free "list" (by decide +kernel)) rfl) (nomark _))))) (pss_one (ps_ret pe_bl)) pss_nil)
    (pss_one (ps_ret (pe_and (pe_cmpR (op_eqDD (units65 hr)) (pe_fld (pv 0) rfl) (pe_fld (pv 1) rfl) (nomark _)) (pe_one (pe_cmpR (op_eqD hr.units) (pe_listVals rfl (pe_fld (pv 0) rfl) (by rfl) (T.free "list" (by decide +kernel)) rfl) (pe_listVals rfl (pe_fld (pv 1) rfl) (by rfl) (T.free "list" (by decide +kernel)) rfl) (nomark _)))))), ?_⟩
  have zl := line_big
  obtain ⟨dxa, ha, ba, ra, ta, la, ea, hva, bva, rva, usa, eha, gha, eba, gba, era, gra, _⟩ := hA
  obtain ⟨dxb, hb, bb, rb, tb, lb, eb, hvb, bvb, rvb, usb, ehb, ghb, ebb, gbb, erb, grb, _⟩ := hB
  have cP := (T.cls "Program" (by decide +kernel)).1
  have nat (f : Str) (hf : f ∈ FIELDS91) : NoAttr K (He.ga K "Program") f := T.noat ("Program", f) (fields91 hf)
  refine sq ?_
  walk_at "wp"
  refine isi_own (dx := dxb) cP TI eb ?_
  refine ⟨_, rfl, iteFb rfl ?_⟩
  have lhva : hva.length = (fs.map Fn91.name).length := by have := dta_len gha; rw [List.length_map] at this ⊢; exact this
  have lhvb : hvb.length = (fs.map Fn91.name).length := by have := dta_len ghb; rw [List.length_map] at this ⊢; exact this
  refine fldw ea cP (nat "heads" (by decide)) rfl ⟨ha, rfl, _, eha, fun H1 l1 ts1 s1 nl1 nts1 _ el1 pr1 => ?_⟩
  refine fldw (s1 _ _ eb) cP (nat "heads" (by decide)) rfl ⟨hb, rfl, _, s1 _ _ ehb, fun H2 l2 ts2 s2 nl2 nts2 _ el2 pr2 => ?_⟩
  have s12 : Same H H2 := Same.trans s1 s2
  have hz : ∀ n ∈ fs.map Fn91.name, n.length ≤ 100000 := fun n hn => by
    obtain ⟨f, hf, rfl⟩ := List.mem_map.mp hn
    have h1 := (o1.2.2.1 f hf).1
    unfold nameB at h1
    simp only [Bool.and_eq_true, decide_eq_true_eq] at h1
    omega
  have d1 := (items_dt hz (gha.keep (tups_of s1)) lhva pr1).keep (tups_of s2)
  have d2 := items_dt hz (ghb.keep (tups_of s12)) lhvb pr2
  have sI := sh_items o1.2.2.1
  have eqI := SeqAt.eqv_refl _ sI.1
  refine ⟨_, _, .lst (.of (s2 _ _ el1)) d1.dp, .lst (.of el2) d2.dp, shaped_of sI, shaped_of sI, _, rfl, iteFb (by rw [eqI]; rfl) ?_⟩
  have lbva : bva.length = (fs.map Fn91.name).length := by have := dta_len gba; rw [List.length_map] at this ⊢; exact this
  have lbvb : bvb.length = (fs.map Fn91.name).length := by have := dta_len gbb; rw [List.length_map] at this ⊢; exact this
  refine fldw (s12 _ _ ea) cP (nat "bodies" (by decide)) rfl (fldw (s12 _ _ eb) cP (nat "bodies" (by decide)) rfl ?_)
  refine ⟨ba, bb, _, _, rfl, rfl, s12 _ _ eba, s12 _ _ ebb, by rw [kvz_len lbva, kvz_len lbvb], fun p hp => ?_, _, rfl, iteTb rfl ?_⟩
  · obtain ⟨i, hi⟩ := List.mem_iff_getElem?.mp hp
    obtain ⟨n, en, ek, ev⟩ := kvz_of hi
    obtain ⟨d, ed, gd⟩ := dta_of (gba.keep (tups_of s12)) ev
    obtain ⟨u, eu, gu⟩ := dta_get (gbb.keep (tups_of s12)) ed
    obtain ⟨f, ef, rfl⟩ : ∃ f, fs[i]? = some f ∧ f.body = d := by
      rw [List.getElem?_map] at ed
      exact Option.map_eq_some_iff.mp ed
    refine ⟨u, by rw [ek]; exact kvz_val o1.2.2.2.1 en eu, f.body, gd.dp, gu.dp, shaped_of ((body_sh 8 0 _ (o3 f (List.mem_of_getElem? ef))).mono (by omega))⟩
  have lrva : rva.length = (bs.map Box91.name).length := by have := dta_len gra; rw [List.length_map] at this ⊢; exact this
  have lrvb : rvb.length = (bs.map Box91.name).length := by have := dta_len grb; rw [List.length_map] at this ⊢; exact this
  refine fldw (s12 _ _ ea) cP (nat "rows" (by decide)) rfl ⟨ra, rfl, _, .inl (s12 _ _ era), fun p3 np3 => ?_⟩
  have s3 := same_new np3 (.lst ((kvz (bs.map Box91.name) rva).map Prod.snd))
  have s13 := Same.trans s12 s3
  refine fldw (s13 _ _ eb) cP (nat "rows" (by decide)) rfl ⟨rb, rfl, _, .inl (s13 _ _ erb), fun p4 np4 => ?_⟩
  have s4 := same_new np4 (.lst ((kvz (bs.map Box91.name) rvb).map Prod.snd))
  have s14 := Same.trans s13 s4
  have sR := sh_rows o2.2.1
  have e3 := s4 _ _ (upd_same (H := H2) (a := p3) (o := .lst ((kvz (bs.map Box91.name) rva).map Prod.snd)))
  rw [kvz_snd lrva] at e3
  refine ⟨.list (bs.map Box91.data), .list (bs.map Box91.data), .lst (.of (by rw [kvz_snd lrva]; exact e3)) (gra.keep (tups_of s14)).dp, .lst (.of (by rw [upd_same, kvz_snd lrvb])) (grb.keep (tups_of s14)).dp, shaped_of sR, shaped_of sR, ?_⟩
  rw [SeqAt.eqv_refl _ sR.1]
  exact q _ s14
end
end K91
set_option Elab.async false
set_option linter.all false
set_option maxRecDepth 100000
set_option maxHeartbeats 4000000
namespace K91
open PySem PySem.Spec PyProof.Rows L2
/-! ### how long the shown text of a program's parts is -/
def okR (d : PyData) : Prop := d.showable = true ∧ PyData.intsShort 62 d = true
theorem shAll : ∀ {ds : List PyData}, (∀ d ∈ ds, okR d) → PyData.showableAll ds = true ∧ PyData.intsShortAll 62 ds = true
  | [], _ => ⟨by simp only [PyData.showableAll], by simp only [PyData.intsShortAll]⟩
  | d :: r, h => by
    obtain ⟨h1, h2⟩ := h d List.mem_cons_self
    obtain ⟨h3, h4⟩ := shAll fun x hx => h x (List.mem_cons_of_mem _ hx)
    exact ⟨by simp only [PyData.showableAll, h1, h3, Bool.and_self], by simp only [PyData.intsShortAll, h2, h4, Bool.and_self]⟩
theorem okR_tup {ds : List PyData} (h : ∀ d ∈ ds, okR d) : okR (.tuple ds) := ⟨by simp only [PyData.showable]; exact (shAll h).1, by simp only [PyData.intsShort]; exact (shAll h).2⟩
theorem okR_list {ds : List PyData} (h : ∀ d ∈ ds, okR d) : okR (.list ds) := ⟨by simp only [PyData.showable]; exact (shAll h).1, by simp only [PyData.intsShort]; exact (shAll h).2⟩
theorem okR_str (x : Str) : okR (.str x) := ⟨by simp only [PyData.showable], by simp only [PyData.intsShort]⟩
theorem okR_int {i : Int} (h : i.natAbs ≤ 1000000000000000000000000000000000000000000000000000000000000) : okR (.int i) := by
  refine ⟨by simp only [PyData.showable]; exact decide_eq_true (int_log i h), ?_⟩
  simp only [PyData.intsShort]
  refine decide_eq_true ?_
  have e : PyData.shown (.int i) = ((toString i : String) : Str) := by simp only [PyData.shown]
  rw [e]
  exact int_len i h
theorem bulk_tup (ds : List PyData) : (PyData.tuple ds).bulk = PyData.bulkAll ds := by simp only [PyData.bulk]
theorem bulk_list (ds : List PyData) : (PyData.list ds).bulk = PyData.bulkAll ds := by simp only [PyData.bulk]
theorem bulk_str (x : Str) : (PyData.str x).bulk = x.length := by simp only [PyData.bulk]; rfl
theorem bulk_int (i : Int) : (PyData.int i).bulk = 0 := by simp only [PyData.bulk]
theorem bulkAll_nil : PyData.bulkAll [] = 0 := by simp only [PyData.bulkAll]
theorem bulkAll_cons (d : PyData) (ds : List PyData) : PyData.bulkAll (d :: ds) = d.bulk + 1 + PyData.bulkAll ds := by simp only [PyData.bulkAll]
theorem bulkAll_le {m : Nat} : ∀ {ds : List PyData}, (∀ d ∈ ds, d.bulk ≤ m) → PyData.bulkAll ds ≤ (m + 1) * ds.length
  | [], _ => by rw [bulkAll_nil]; exact Nat.zero_le _
  | d :: r, h => by
    have h1 := h d List.mem_cons_self
    have h2 := bulkAll_le (m := m) (ds := r) fun x hx => h x (List.mem_cons_of_mem _ hx)
    rw [bulkAll_cons, List.length_cons, Nat.mul_succ]
    omega
theorem nested_R : ∀ (n : Nat) (d : PyData), nestedB (n + 1) d = true → okR d ∧ d.bulk + 11 ≤ 19 * 2 ^ n
  | n, d, h => by
    have p1 := Nat.one_le_two_pow (n := n)
    rcases nested_cases h with ⟨i, rfl, h1, h2⟩ | ⟨x, rfl, hx⟩ | ⟨m, o, l, r, e, rfl, hm, ho, hl, hr⟩
    · exact ⟨okR_int (limit_abs h1 h2), by rw [bulk_int]; omega⟩
    · exact ⟨okR_str x, by rw [bulk_str]; have := name_len hx; omega⟩
    · cases e
      match n, hm with
      | k + 1, _ =>
        obtain ⟨a1, a2⟩ := nested_R k l hl
        obtain ⟨b1, b2⟩ := nested_R k r hr
        refine ⟨okR_tup fun d hd => ?_, ?_⟩
        · rcases List.mem_cons.mp hd with rfl | hd
          · exact okR_str _
          rcases List.mem_cons.mp hd with rfl | hd
          · exact a1
          rcases List.mem_cons.mp hd with rfl | hd
          · exact b1
          · cases hd
        · rw [bulk_tup, bulkAll_cons, bulkAll_cons, bulkAll_cons, bulkAll_nil, bulk_str, Nat.pow_succ]
          have := op_len ho
          omega
def wt (k : Str) : Nat := if k = "body" then 0 else if k = "args" then 330 else if k = "expression" then 65 else 8
theorem part_R {c : Cx91} {l : Nat} {wd : Str} {ks : List Str} {ps : List PyData} (hl : l ≤ 60) (hk : shapeOf wd = some ks) (hu : usesOk c l wd ps) {q : Str × PyData} (hq : q ∈ ks.zip ps) (h : part3 q.1 q.2 = true) (nb : q.1 ≠ "body") : okR q.2 ∧ q.2.bulk ≤ wt q.1 := by
  have hkk := kinds_known hk q.1 (List.of_mem_zip hq).1
  obtain ⟨k, d⟩ := q
  simp only at *
  unfold wt
  rw [if_neg nb]
  rcases hkk with rfl | rfl | rfl | rfl | rfl
  · have h' : isNameD d = true := h
    obtain ⟨x, rfl, hx⟩ := isName_str h'
    refine ⟨okR_str x, ?_⟩
    rw [bulk_str, if_neg (by decide +kernel), if_neg (by decide +kernel)]
    exact name_len hx
  · have h' : nestedB 3 d = true := h
    obtain ⟨a, b⟩ := nested_R 2 d h'
    refine ⟨a, ?_⟩
    rw [if_neg (by decide +kernel), if_pos rfl]
    omega
  · have h' : jumpB d = true := h
    obtain ⟨i, rfl, hi⟩ := jump_of h'
    exact ⟨okR_int (jump_small hl hk hu hq rfl i rfl hi), by rw [bulk_int]; exact Nat.zero_le _⟩
  · have h' : args3 d = true := h
    obtain ⟨es, rfl, le, he⟩ := args3_of h'
    refine ⟨okR_tup fun e hm => (nested_R 2 e (he e hm)).1, ?_⟩
    rw [if_pos rfl, bulk_tup]
    have := bulkAll_le (m := 65) fun e hm => by have := (nested_R 2 e (he e hm)).2; omega
    have e2 : 66 * es.length ≤ 66 * 5 := Nat.mul_le_mul_left _ le
    omega
  · exact absurd rfl nb
theorem parts_bulk : ∀ {ks : List Str} {ps : List PyData}, ps.length = ks.length → (∀ q ∈ ks.zip ps, q.1 ≠ "body" → q.2.bulk ≤ wt q.1) → PyData.bulkAll ps ≤ (ks.map fun k => wt k + 1).sum + ((bodiesL ks ps).map PyData.bulk).sum
  | [], [], _, _ => by rw [bulkAll_nil]; exact Nat.zero_le _
  | k :: ks, p :: ps, hl, h => by
    have ih := parts_bulk (ks := ks) (ps := ps) (Nat.succ.inj hl) fun q hq => h q (List.mem_cons_of_mem _ hq)
    have h0 := h (k, p) List.mem_cons_self
    rw [bulkAll_cons, List.map_cons, List.sum_cons]
    have eb : bodiesL (k :: ks) (p :: ps) = (if k = ("body" : Str) then [p] else []) ++ bodiesL ks ps := by
      unfold bodiesL
      rw [List.zip_cons_cons, List.filter_cons]
      by_cases c : k = ("body" : Str)
      · simp only [c, decide_true, if_true, List.map_cons, List.cons_append, List.nil_append]
      · simp only [c, decide_false, Bool.false_eq_true, if_false, List.nil_append]
    rw [eb, List.map_append, List.sum_append]
    by_cases c : k = ("body" : Str)
    · rw [if_pos c]
      simp only [List.map_cons, List.map_nil, List.sum_cons, List.sum_nil]
      omega
    · rw [if_neg c]
      have := h0 c
      simp only [List.map_nil, List.sum_nil]
      simp only at this
      omega
theorem shape_bulk {wd : Str} {ks : List Str} (h : shapeOf wd = some ks) : wd.length + 1 + (ks.map fun k => wt k + 1).sum ≤ 415 := by
  have z : ∀ q ∈ shapes, q.1.length + 1 + (q.2.map fun k => wt k + 1).sum ≤ 415 := by decide +kernel
  exact z (wd, ks) (shapeOf_mem h)
theorem sum_mul {α : Type} {f g : α → Nat} {m : Nat} : ∀ {l : List α}, (∀ x ∈ l, f x ≤ m * g x) → (l.map f).sum ≤ m * (l.map g).sum
  | [], _ => Nat.zero_le _
  | a :: r, h => by
    have h1 := h a List.mem_cons_self
    have h2 := sum_mul (f := f) (g := g) (m := m) (l := r) fun x hx => h x (List.mem_cons_of_mem _ hx)
    rw [List.map_cons, List.sum_cons, List.map_cons, List.sum_cons, Nat.mul_add]
    omega
theorem bulkAll_sum : ∀ ds : List PyData, PyData.bulkAll ds = (ds.map fun d => d.bulk + 1).sum
  | [] => by rw [bulkAll_nil]; rfl
  | d :: r => by rw [bulkAll_cons, bulkAll_sum r, List.map_cons, List.sum_cons]
theorem body_R {c : Cx91} : ∀ (n l : Nat) (d : PyData), n + l ≤ 60 → lawB c n l d → okR d ∧ d.bulk ≤ 416 * cntB n d
  | 0, _, _, _, h => h.elim
  | n + 1, l, d, hn, h => by
    obtain ⟨ds, rfl, _, _, hs⟩ := h
    have st : ∀ s ∈ ds, okR s ∧ s.bulk + 1 ≤ 416 * cntS (cntB n) s := fun s hm => by
      obtain ⟨wd, ps, ks, rfl, hk, hlen, hp, hu, hB⟩ := hs s hm
      have hB' : ∀ b ∈ bodiesL ks ps, okR b ∧ b.bulk ≤ 416 * cntB n b := fun b hb => body_R n _ b (by split <;> omega) (hB b hb)
      refine ⟨okR_tup fun d hd => ?_, ?_⟩
      · rcases List.mem_cons.mp hd with rfl | hd
        · exact okR_str _
        obtain ⟨k, hz⟩ := zip_mem_of hlen hd
        by_cases cb : k = "body"
        · exact (hB' d (mem_body hz cb)).1
        · exact (part_R (by omega) hk hu hz (hp _ hz) cb).1
      · rw [cntS_of hk, bulk_tup, bulkAll_cons, bulk_str]
        have h1 := shape_bulk hk
        have h2 := parts_bulk hlen fun q hq nb => (part_R (by omega) hk hu hq (hp q hq) nb).2
        have h3 := sum_mul (f := PyData.bulk) (g := cntB n) (m := 416) fun b hb => (hB' b hb).2
        rw [Nat.mul_add, Nat.mul_one]
        omega
    refine ⟨okR_tup fun d hd => (st d hd).1, ?_⟩
    rw [bulk_tup, bulkAll_sum]
    exact sum_mul fun s hm => (st s hm).2
theorem mem_le_nat {l : List Nat} {x : Nat} (h : x ∈ l) : x ≤ l.sum := by
  induction l with
  | nil => cases h
  | cons a r ih =>
    rw [List.sum_cons]
    rcases List.mem_cons.mp h with rfl | h
    · omega
    · have := ih h; omega
/-- what repr asks of data -/
theorem shown_ok {m : Nat} {d : PyData} (hs : shP m d) (hm : m ≤ 60) (hr : okR d) (hb : d.bulk ≤ 250000) : d.showable = true ∧ d.hasDict = false ∧ d.depth ≤ 60 ∧ d.shown.length ≤ sizeLine := by
  refine ⟨hr.1, PyData.hasDict_of_canLay d hs.1, Nat.le_trans hs.2 hm, ?_⟩
  have h := PyData.shown_le_bulk 62 (by decide) d (PyData.leavesShort_of_canLay0 62 d hs.1 hr.2)
  rw [sizeLine_eq]
  have : (62 + 2) * d.bulk ≤ 64 * 250000 := Nat.mul_le_mul_left _ hb
  omega
/-- [boxes, functions] -/
def partsD (fs : List Fn91) (bs : List Box91) : PyData := .list [.list (bs.map Box91.data), .list ((fs.map Fn91.name).map .str)]
/-- [parameters, body] -/
def fnD (f : Fn91) : PyData := .list [.list (f.heads.map .str), f.body]
theorem LawP.parts {fs : List Fn91} {bs : List Box91} (h : LawP fs bs) : (partsD fs bs).showable = true ∧ (partsD fs bs).hasDict = false ∧ (partsD fs bs).depth ≤ 60 ∧ (partsD fs bs).shown.length ≤ sizeLine := by
  have hb := h.boxes.2.1
  have hf := h.fns.2.2.1
  have n1 := h.boxes.1
  have n2 := h.fns.2.1
  have rb : ∀ d ∈ bs.map Box91.data, okR d ∧ d.bulk ≤ 30 := fun d hd => by
    obtain ⟨b, hm, rfl⟩ := List.mem_map.mp hd
    obtain ⟨b1, b2, b3, b4⟩ := hb b hm
    refine ⟨okR_tup fun d hd => ?_, ?_⟩
    · rcases List.mem_cons.mp hd with rfl | hd
      · exact okR_str _
      rcases List.mem_cons.mp hd with rfl | hd
      · exact okR_str _
      rcases List.mem_cons.mp hd with rfl | hd
      · exact okR_int (limit_abs b3 b4)
      · cases hd
    · unfold Box91.data
      rw [bulk_tup, bulkAll_cons, bulkAll_cons, bulkAll_cons, bulkAll_nil, bulk_str, bulk_str, bulk_int]
      have := name_len b1
      have := rule_len b2
      omega
  have rf : ∀ d ∈ (fs.map Fn91.name).map PyData.str, okR d ∧ d.bulk ≤ 8 ∧ shP 0 d := fun d hd => by
    obtain ⟨x, hx, rfl⟩ := List.mem_map.mp hd
    obtain ⟨f, hm, rfl⟩ := List.mem_map.mp hx
    exact ⟨okR_str _, by rw [bulk_str]; exact name_len (hf f hm).1, sh_name 0 (hf f hm).1⟩
  refine shown_ok (m := 60) (sh_list (m := 59) fun d hd => ?_) (by omega) (okR_list fun d hd => ?_) ?_
  · rcases List.mem_cons.mp hd with rfl | hd
    · refine (sh_list (m := 2) fun d hd => ?_).mono (by omega)
      obtain ⟨b, hm, rfl⟩ := List.mem_map.mp hd
      obtain ⟨b1, b2, b3, b4⟩ := hb b hm
      refine (sh_tup (m := 0) fun d hd => ?_).mono (by omega)
      rcases List.mem_cons.mp hd with rfl | hd
      · exact sh_name _ b1
      rcases List.mem_cons.mp hd with rfl | hd
      · exact sh_name _ (rule_name b2)
      rcases List.mem_cons.mp hd with rfl | hd
      · exact sh_int _ _
      · cases hd
    rcases List.mem_cons.mp hd with rfl | hd
    · exact (sh_list (m := 0) fun d hd => (rf d hd).2.2).mono (by omega)
    · cases hd
  · rcases List.mem_cons.mp hd with rfl | hd
    · exact okR_list fun d hd => (rb d hd).1
    rcases List.mem_cons.mp hd with rfl | hd
    · exact okR_list fun d hd => (rf d hd).1
    · cases hd
  · unfold partsD
    rw [bulk_list, bulkAll_cons, bulkAll_cons, bulkAll_nil, bulk_list, bulk_list]
    have h1 := bulkAll_le fun d hd => (rb d hd).2
    have h2 := bulkAll_le fun d hd => (rf d hd).2.1
    rw [List.length_map] at h1
    rw [List.length_map, List.length_map] at h2
    omega
theorem LawP.fn {fs : List Fn91} {bs : List Box91} (h : LawP fs bs) {f : Fn91} (hf : f ∈ fs) : (fnD f).showable = true ∧ (fnD f).hasDict = false ∧ (fnD f).depth ≤ 60 ∧ (fnD f).shown.length ≤ sizeLine := by
  obtain ⟨f1, f2, f3, f4, f5⟩ := h.fns.2.2.1 f hf
  obtain ⟨b1, b2⟩ := body_R 8 0 f.body (by omega) (h.body f hf)
  have sb := body_sh 8 0 f.body (lawB_ok 8 0 _ (h.body f hf))
  have hc := h.cnt
  have hle : cntB 8 f.body ≤ cntAll fs := by
    unfold cntAll
    exact mem_le_nat (List.mem_map_of_mem hf)
  have rh : ∀ d ∈ f.heads.map PyData.str, okR d ∧ d.bulk ≤ 8 ∧ shP 0 d := fun d hd => by
    obtain ⟨x, hx, rfl⟩ := List.mem_map.mp hd
    exact ⟨okR_str _, by rw [bulk_str]; exact name_len (f3 x hx), sh_name 0 (f3 x hx)⟩
  refine shown_ok (m := 60) (sh_list (m := 59) fun d hd => ?_) (by omega) (okR_list fun d hd => ?_) ?_
  · rcases List.mem_cons.mp hd with rfl | hd
    · exact (sh_list (m := 0) fun d hd => (rh d hd).2.2).mono (by omega)
    rcases List.mem_cons.mp hd with rfl | hd
    · exact sb.mono (by omega)
    · cases hd
  · rcases List.mem_cons.mp hd with rfl | hd
    · exact okR_list fun d hd => (rh d hd).1
    rcases List.mem_cons.mp hd with rfl | hd
    · exact b1
    · cases hd
  · unfold fnD
    rw [bulk_list, bulkAll_cons, bulkAll_cons, bulkAll_nil, bulk_list]
    have h2 := bulkAll_le fun d hd => (rh d hd).2.1
    rw [List.length_map] at h2
    have : 416 * cntB 8 f.body ≤ 416 * 500 := Nat.mul_le_mul_left _ (by omega)
    omega
end K91
set_option Elab.async false
set_option linter.all false
set_option maxRecDepth 100000
set_option maxHeartbeats 8000000
namespace K91
open PySem PySem.Spec PyProof.Rows L2 _root_.SX PySem.NumText
section
variable {P : Program} {w : World} {K : PySem.W.Frag} {mg : Str → Option Value} {base : Heap}
theorem okr_Reader_body (T : Top K mg w) : ∀ n : Nat, FnR P w K mg base CX0 (2 * n + 30) (He.ma K (He.ga K "Reader") "body") (spBodyR K n)
  | 0 => fun A outer s H us vs Q E hr e0 r h => by
    obtain ⟨p, la, ls, k, dp, d, _, _, hb, _⟩ := h
    exact (show False from hb).elim
  | n + 1 => by
    have h1 := st_Reader_statement (P := P) (w := w) (base := base) T (okr_Reader_body T n)
    have h2 := st_Reader_body (P := P) (w := w) (base := base) T h1
    exact h2
theorem ok_Reader_body (T : Top K mg w) : FnR P w K mg base CX0 46 (He.ma K (He.ga K "Reader") "body") (spBodyR K 8) := okr_Reader_body T 8
end
end K91
set_option Elab.async false
set_option linter.all false
set_option maxRecDepth 100000
set_option maxHeartbeats 8000000
namespace K91
open PySem PySem.Spec PyProof.Rows L2 _root_.SX PySem.NumText
local macro_rules | `(tactic| walk_at "wp") => `(tactic| try simp only [cxK, cxw, cxK', cxw', start1, start2, start3, start4, start5, tRet, tRetN, tAsg, gName, gTup, gCons, gNil, gSub, tDrop, tNext, tIfS, tIf, tVar, tC, tAndV, tOrV, tNotV, tAnd, tOr, tNot, tTest, tB, tCB, tCons, tNil, tOp, tUn, rI0, rI, rU, rEq, rNe, rIn, tChain, tFld, sFld, tSl, tPart, tNoPart, tTup, tLst, tCallR, tMethR, tMethO, tBM, tBM0, tM0, tM1, tDGet, tDIn, tDNotIn, tDNewK, tCmp, t2I, tIsN, tNotN, tYes, tLc_eq, tFor_eq, tLenSetN, iItems, iVals, iKeys, iRng1, tLock, tLockE, tCallKw, tMakeKw, tMethKw, StX.tMakeR, tDc_eq, tLc2_eq, sFldAug, rMulS, tListVals, LiI.tListItems, LiI.rItemsL, RZ.iZipA, iStr, iTup, iList, iEnum, iEnumT, tDGet1, tDGet2, tDisp, tPairs, wipe, List.map_cons, List.map_nil,
  List.length_cons, List.length_nil, Nat.reduceAdd, Nat.reduceSub, List.replicate_succ, List.replicate_zero, if_true, if_false, Bool.not_true, Bool.not_false, Bool.false_eq_true, reduceIte,
  List.set_cons_zero, List.set_cons_succ, List.getElem?_cons_zero, List.getElem?_cons_succ, Option.some.injEq, exists_eq_left', exists_eq_left, V.int.injEq, V.str.injEq, V.bl.injEq, V.ref.injEq, V.ty.injEq, List.cons.injEq, and_true, true_and, and_assoc, exists_and_left, List.nil_append, List.cons_append, List.append_nil])
local macro_rules | `(tactic| walk_at "st") => `(tactic| (refine sq ?_; walk_at "wp"))
section
variable {P : Program} {w : World} {K : PySem.W.Frag} {mg : Str → Option Value} {base : Heap}
theorem if_both {b : Bool} {X Y : Prop} (h : X) (g : b = false → X → Y) : if b = true then X else Y := by
  cases b with
  | true => rw [if_pos rfl]; exact h
  | false => rw [if_neg Bool.false_ne_true]; exact g rfl h
/-- the functions that stand in lines -/
def spFunctionsR (K : PySem.W.Frag) : Sp := fun vs H Q _ => ∃ p la ls k, ∃ fs : List Fn91, vs = [.ref p] ∧ RdAt K H p la ls k ∧ 1 ≤ fs.length ∧ fs.length ≤ 12 ∧ (fs.map Fn91.name).Nodup ∧ (∀ f ∈ fs, fnOk f) ∧ (∀ f ∈ fs, bodyR 8 f.body) ∧ LinesAt ls k (fs.flatMap fnLines) ∧ k + (fs.flatMap fnLines).length = ls.length ∧
  ∀ H' a, SX p H H' → RdAt K H' p la ls ls.length → H a = none → a ≠ p → TabAt K H' a fs → Q (.ref a) H'
theorem ok_Reader_functions (T : Top K mg w)  : FnR P w K mg base CX0 50 (He.ma K (He.ga K "Reader") "functions") (spFunctionsR K) := by
  obtain ⟨fd, F⟩ := T.def_ d_Reader_functions (List.mem_of_getElem? (i := 47) rfl)
  refine mkR F sc_Reader_functions (fun _ _ _ _ _ _ us hl => match us, hl with | [_], _ => rfl) (fun vs H Q E h => ?_) (fun cdv A outer s H vs Q E hr h => ?_)
  · obtain ⟨p, la, ls, k, fs, rfl, _⟩ := h; rfl
  obtain ⟨p, la, ls, k, fs, rfl, hrd, hf1, hf12, hnd, hfo, hbR, hL, hlen, q⟩ := h
  have G_Reader_body := ok_Reader_body (P := P) (w := w) (base := base) T
  have G_Reader_end_row := ok_Reader_end_row (P := P) (w := w) (base := base) T
  have G_is_name := ok_is_name (P := P) (w := w) (base := base) T
  have G_Row_next_arguments := ok_Row_next_arguments (P := P) (w := w) (base := base) T
  have G_Row_next_part := ok_Row_next_part (P := P) (w := w) (base := base) T
  have G_Reader_row_behind := ok_Reader_row_behind (P := P) (w := w) (base := base) T
  have G_Reader_is_next := ok_Reader_is_next (P := P) (w := w) (base := base) T
  refine ⟨_, pss_cons (ps_set (i := 1) sc_Reader_functions.nd rfl (by first | exact Or.inl rfl | exact Or.inr rfl) pe_dnewK)
    (pss_cons (ps_while PassesOwn.never (PW.pt (pw_or (pt_cmpR (op_eqD0 hr.units0) (pv 1) pe_dnewK (nomark _)) (pw_or1 (pt_cmpR (op_lt) (pe_fld (pv 0) rfl) (pe_callB (r := fun xs H Q => ∃ x n, xs = [x] ∧ LenV K x H n ∧ Q (.int n) H) call_len (by rfl) (T.free "len" (by decide +kernel)) (by decide +kernel) (pa_cons (pe_fld (pv 0) rfl) pa_nil)) (nomark _)))))
    (pss_cons (ps_if (pt_not (pt_val (pe_methR (pv 0) (T.cls "Reader" (by decide +kernel)).1 (T.meth ("Reader", "is_next") (by decide +kernel)) G_Reader_is_next (hr.mono (by omega)) pass0 (pa_cons pe_int (pa_cons pe_str pa_nil))))) (pss_one ps_never) pss_nil)
    (pss_cons (ps_set (i := 2) sc_Reader_functions.nd rfl (by first | exact Or.inl rfl | exact Or.inr rfl) (pe_methR (pv 0) (T.cls "Reader" (by decide +kernel)).1 (T.meth ("Reader", "row_behind") (by decide +kernel)) G_Reader_row_behind (hr.mono (by omega)) pass0 (pa_cons pe_str pa_nil)))
    (pss_cons (ps_set (i := 3) sc_Reader_functions.nd rfl (by first | exact Or.inl rfl | exact Or.inr rfl) (pe_methR (pv 2) (T.cls "Row" (by decide +kernel)).1 (T.meth ("Row", "next_part") (by decide +kernel)) G_Row_next_part (hr.mono (by omega)) pass0 (pa_cons pe_str pa_nil)))
    (pss_cons (ps_set (i := 4) sc_Reader_functions.nd rfl (by first | exact Or.inl rfl | exact Or.inr rfl) (pmeth0' (T.cls "Row" (by decide +kernel)).1 (T.meth ("Row", "next_arguments") (by decide +kernel)) G_Row_next_arguments hr (pv 2)))
    (pss_cons (ps_if (PW.pt (pw_or (pt_cmp (pc_din (hu_of hr) (pv 3) (pv 1))) (pw_or1 (pt_not (pt_val (pe_callB (r := rAll K) (cr_all rfl) (by rfl) (T.free "all" (by decide +kernel)) (by decide +kernel) (pa_cons (pe_lc (own := [("head", 5)]) (g := (gName 5)) (tt := tYes) rfl sc_Reader_functions.nd (pi_tup (pv 4)) (blkOk_by (own := [("head", 5)]) (N := ["self", "found", "row", "name", "heads", "head"]) (sc := defScope s_Reader_functions) (by decide +kernel)) (fun _ _ _ _ _ => (pg_name (i := 5) sc_Reader_functions.nd rfl (by first | exact Or.inl rfl | exact Or.inr rfl))) (fun _ _ _ _ _ => pts_nil) (fun _ _ _ _ _ => (pcall G_is_name hr (T.glo "is_name" (by decide +kernel)) (pa_cons (pv 5) pa_nil)))) pa_nil))))))) (pss_one ps_never) pss_nil)
    (pss_cons (ps_expr (pe_methR (pv 0) (T.cls "Reader" (by decide +kernel)).1 (T.meth ("Reader", "end_row") (by decide +kernel)) G_Reader_end_row (hr.mono (by omega)) pass0 (pa_cons (pv 2) pa_nil)))
    (pss_one (ps_dput (hu_of hr) (pv 1) (pv 3) (pe_tup (pa_cons (pv 4) (pa_cons (pe_methR (pv 0) (T.cls "Reader" (by decide +kernel)).1 (T.meth ("Reader", "body") (by decide +kernel)) G_Reader_body (hr.mono (by omega)) pass0 (pa_cons pe_int pa_nil)) pa_nil))) rfl)))))))))
    (pss_one (ps_ret (pv 1)))), ?_⟩
  have zl := line_big
  have hrd00 := hrd
  obtain ⟨hn, hl, dx, hp, hla, nla⟩ := hrd
  -- behind i functions
  have seg : ∀ i (fn : Fn91), fs[i]? = some fn → LinesAt ls (k + ((fs.take i).flatMap fnLines).length) (fnLines fn) ∧ TermAt ls (k + ((fs.take i).flatMap fnLines).length + (fnLines fn).length) 1 := by
    intro i fn e
    have es := flat_take_succ fnLines e
    have e3 : fs.flatMap fnLines = (fs.take (i + 1)).flatMap fnLines ++ (fs.drop (i + 1)).flatMap fnLines := by rw [← List.flatMap_append, List.take_append_drop]
    have hL2 := hL
    rw [e3] at hL2
    have hLa := hL2.left
    rw [es] at hLa
    refine ⟨hLa.right, ?_⟩
    have e4 : k + ((fs.take i).flatMap fnLines).length + (fnLines fn).length = k + ((fs.take (i + 1)).flatMap fnLines).length := by rw [es, List.length_append]; omega
    rw [e4]
    cases e5 : fs.drop (i + 1) with
    | nil =>
      rw [e3, e5, List.flatMap_nil, List.append_nil] at hlen
      exact .inl hlen
    | cons f2 r2 =>
      have hLb := hL2.right
      rw [e5, List.flatMap_cons] at hLb
      have hh := LinesAt.head (x := headLine f2) (ys := bodyT 8 1 f2.body ++ r2.flatMap fnLines) hLb
      rw [headLine_codes] at hh
      exact .inr ⟨0, _, hh, fun_start _, by omega⟩
  refine sq ?_
  walk_at "wp"
  intro f nf
  have s0 := same_new nf (.dK [])
  have nfp : f ≠ p := by rintro rfl; rw [hp] at nf; cases nf
  refine sq ?_
  refine ⟨fun m σ H' => ∃ x2 x3 x4, σ = [some (V.ref p), some (V.ref f), x2, x3, x4, none] ∧ ∃ i vs, m = fs.length - i ∧ i ≤ fs.length ∧ SX p H H' ∧ RdAt K H' p la ls (k + ((fs.take i).flatMap fnLines).length) ∧ H' f = some (.dK (kvz ((fs.take i).map Fn91.name) vs)) ∧ DtAll K H' vs ((fs.take i).map Fn91.data), ⟨fs.length, none, none, none, rfl, 0, [], rfl, Nat.zero_le _, .of s0, by simpa using hrd00.same s0, upd_same, .nil⟩, ?_⟩
  rintro m σ H1 ⟨x2, x3, x4, rfl, i, vs, rfl, hi, X1, hrd1, ef, hvs⟩
  obtain ⟨_, _, dx1, hp1, hla1, nla1⟩ := id hrd1
  walk_at "wp"
  intro e ne
  have s2 := same_new ne (.dK [])
  refine ⟨f, e, _, rfl, rfl, s2 _ _ ef, upd_same, _, rfl, ?_⟩
  have hrd2 := hrd1.same s2
  have ef2 := s2 _ _ ef
  have hvs2 := hvs.keep (tups_of s2)
  have hp2 := s2 _ _ hp1
  generalize upd H1 e (HO.dK []) = H2 at s2 hrd2 ef2 hvs2 hp2 ⊢
  have X2 := X1.trans (.of s2)
  have lvs := dta_len hvs
  rw [List.length_map, List.length_take] at lvs
  have lk : (kvz ((fs.take i).map Fn91.name) vs).length = i := by rw [kvz_len (by rw [List.length_map, List.length_take]; exact lvs), List.length_map, List.length_take]; omega
  have cR := (T.cls "Reader" (by decide +kernel)).1
  have natL := T.noat ("Reader", "line_at") (by decide +kernel)
  have natS := T.noat ("Reader", "lines") (by decide +kernel)
  obtain ⟨_, _, _, _, hla2, _⟩ := id hrd2
  by_cases hi2 : i < fs.length
  · have efn : fs[i]? = some (fs[i]'hi2) := List.getElem?_eq_getElem hi2
    have mfn := List.getElem_mem hi2
    generalize fs[i]'hi2 = fn at efn mfn
    have sg := seg i fn efn
    have hhead := sg.1.head (x := headLine fn) (ys := bodyT 8 1 fn.body)
    rw [headLine_codes] at hhead
    have hbody := sg.1.tail (x := headLine fn) (ys := bodyT 8 1 fn.body)
    obtain ⟨o1, o2, o3, o4, o5⟩ := hfo fn mfn
    have hkl := (List.getElem?_eq_some_iff.mp hhead).1
    refine if_both ?_ fun hb hX => ⟨_, _, _, hp2, cR, natL, _, rfl, _, _, _, hp2, cR, natS, _, rfl, _, .inl ⟨_, hla2, rfl⟩, _, rfl, iteTb (decide_eq_true (by rw [List.length_map]; omega)) hX⟩
    refine ⟨fun σ' H' => ∃ x2 x3 x4, σ' = [some (V.ref p), some (V.ref f), x2, x3, x4, none] ∧ ∃ vs', SX p H H' ∧ RdAt K H' p la ls (k + ((fs.take (i + 1)).flatMap fnLines).length) ∧ H' f = some (.dK (kvz ((fs.take (i + 1)).map Fn91.name) vs')) ∧ DtAll K H' vs' ((fs.take (i + 1)).map Fn91.data), ?_, ?_⟩
    · rintro σ' H' ⟨x2, x3, x4, e, vs', a1, a2, a3, a4⟩
      exact ⟨fs.length - (i + 1), by omega, x2, x3, x4, e, i + 1, rfl, hi2, a1, a2, vs', a3, a4⟩
    refine sq ?_
    walk_at "wp"
    refine ⟨dx1, _, hp2, rfl, p, la, ls, _, 0, funW, rfl, hrd2, by omega, .inr ⟨0, _, funW, hhead, fun_start _, fun_first _ (.inr (head_post fn)), fun H3 s3 => ⟨_, rfl, iteFb (by simp) ?_⟩⟩⟩
    refine sq ?_
    walk_at "wp"
    refine ⟨dx1, _, s3 _ _ hp2, rfl, p, la, ls, _, funW, 0, _, rfl, hrd2.same s3, hhead, fun_start _, fun H4 rp s4 nrp hrow => ?_⟩
    have s24 := s3.trans s4
    have hrd4 := hrd2.same s24
    have ef4 := s24 _ _ ef2
    have hvs4 := hvs2.keep (tups_of s24)
    have X4 := X2.trans (.of s24)
    have nrp2 : H2 rp = none := by
      cases e : H2 rp with
      | none => rfl
      | some u => rw [s3 _ _ e] at nrp; cases nrp
    have nprp : p ≠ rp := by rintro rfl; rw [hp2] at nrp2; cases nrp2
    have nfrp : f ≠ rp := by rintro rfl; rw [ef2] at nrp2; cases nrp2
    have nrpH : H rp = none := by
      cases e : H rp with
      | none => rfl
      | some u => rw [X2.x _ _ (Ne.symm nprp) e] at nrp2; cases nrp2
    obtain ⟨lrow, dr, er⟩ := id hrow
    refine sq ?_
    walk_at "wp"
    have en : exprC 6 (.str fn.name) = fn.name.cps.toList := exprC_str 6 _
    have ep1 : partC "name" (.str fn.name) = 32 :: fn.name.cps.toList := by rw [← en]; rfl
    have stA : stopP (argsC (fn.heads.map .str)) := by
      cases fn.heads with
      | nil => exact fun _ _ e => by cases e
      | cons a r => exact fun _ _ e => .inl (List.cons.inj e).1.symm
    refine ⟨dr, _, er, rfl, rp, "name", [], argsC (fn.heads.map .str), .str fn.name, rfl, hrow, ⟨fun z => absurd z (by decide), fun _ => ⟨_, rfl, o1⟩, fun z => absurd z (by decide), fun _ => o1⟩, stA, fun H5 v1 X5 hr5 gv1 => ?_⟩
    obtain ⟨rfl, _⟩ := gv1.strI
    obtain ⟨_, dr5, er5⟩ := id hr5
    refine sq ?_
    walk_at "wp"
    refine ⟨dr5, _, er5, rfl, rp, _, fn.heads.map .str, rfl, hr5, fun e he => ?_, by rw [List.length_map]; omega, fun H6 v2 X6 hr6 gv2 => ?_⟩
    · obtain ⟨x, hx, rfl⟩ := List.mem_map.mp he
      rw [exprP_str]
      exact o3 x hx
    obtain ⟨_, dr6, er6⟩ := id hr6
    have X56 := X5.trans X6
    have X6' := X4.via nrpH X56
    have ef6 := X56.x _ _ nfrp ef4
    have hvs6 := hvs4.keep X56.t
    have hrd6 := hrd4.sx X56 er nprp
    refine sq ?_
    walk_at "wp"
    have hnot : fn.name ∉ (fs.take i).map Fn91.name := fun z => by
      have := nodup_take hnd (i := i) (x := fn.name) (by rw [List.getElem?_map, efn]; rfl)
      rw [← List.map_take] at this
      rw [List.contains_iff_mem.mpr z] at this
      cases this
    obtain ⟨a2, xs2, rfl, hT2, hX2⟩ := id gv2.tupI
    refine ⟨_, .k (k := .inr fn.name) ef6, iteFb (by rw [kvz_none hnot]; rfl) ⟨a2, rfl, ⟨_, hT2⟩, lcAllT (by show 5 < 6; omega) hT2 hX2 (by rw [List.length_map]; omega) fun D H7 s7 eD => ⟨D, _, rfl, .of eD, ⟨_, rfl, iteFb ?_ ?_⟩⟩⟩⟩
    · have e1 : ((fn.heads.map PyData.str).map isNameD).all id = true := by
        rw [List.all_eq_true]
        intro b hb
        obtain ⟨d, hd, rfl⟩ := List.mem_map.mp hb
        obtain ⟨x, hx, rfl⟩ := List.mem_map.mp hd
        simpa [isNameD] using o3 x hx
      rw [e1]
      rfl
    have hrd7 := hrd6.same s7
    have hr7 := hr6.same s7
    have ef7 := s7 _ _ ef6
    have hvs7 := hvs6.keep (tups_of s7)
    have X7 := X6'.trans (.of s7)
    have gv7 := gv2.keep (tups_of s7)
    obtain ⟨_, _, dx7, hp7, _, _⟩ := id hrd7
    refine sq ?_
    walk_at "wp"
    refine ⟨dx7, _, hp7, rfl, p, la, ls, _, rp, _, rfl, hrd7, hr7, fun H8 X8 hrd8 => ?_⟩
    have ef8 := X8.x _ _ nfp ef7
    have hvs8 := hvs7.keep X8.t
    have X8' := X7.trans X8
    have gv8 := gv7.keep X8.t
    obtain ⟨_, _, dx8, hp8, _, _⟩ := id hrd8
    have ett : (fnLines fn).length = (bodyT 8 1 fn.body).length + 1 := rfl
    have sgt := sg.2
    rw [ett] at sgt
    simp only [sDPut]
    walk_at "wp"
    refine ⟨dx8, _, hp8, rfl, p, la, ls, _, 1, fn.body, rfl, hrd8, hbR fn mfn, by omega, hbody, by rw [show k + ((fs.take i).flatMap fnLines).length + 1 + (bodyT 8 1 fn.body).length = k + ((fs.take i).flatMap fnLines).length + ((bodyT 8 1 fn.body).length + 1) by omega]; exact sgt, fun H9 v9 X9 hrd9 gv9 => ?_⟩
    have ef9 := X9.x _ _ nfp ef8
    have hvs9 := hvs8.keep X9.t
    have X9' := X8'.trans X9
    have gv9' := gv8.keep X9.t
    refine ⟨by omega, fun t nt => ?_⟩
    have s10 := same_new nt (.tup [.ref a2, v9])
    have ef10 := s10 _ _ ef9
    refine ⟨_, .k (k := .inr fn.name) ef10 (by omega), ?_⟩
    have etake : (fs.take (i + 1)).map Fn91.name = (fs.take i).map Fn91.name ++ [fn.name] := by rw [List.take_add_one, efn, List.map_append]; rfl
    have eput : putK (kvz ((fs.take i).map Fn91.name) vs) (.inr fn.name) (.ref t) = kvz ((fs.take (i + 1)).map Fn91.name) (vs ++ [.ref t]) := by
      rw [put_new hnot, etake, kvz_app (by rw [List.length_map, List.length_take]; exact lvs)]
      rfl
    rw [eput]
    have t11 := tups_lock ef10 (.dK (kvz ((fs.take (i + 1)).map Fn91.name) (vs ++ [.ref t])))
    have eflat : ((fs.take (i + 1)).flatMap fnLines).length = ((fs.take i).flatMap fnLines).length + ((bodyT 8 1 fn.body).length + 1) := by rw [flat_take_succ fnLines efn, List.length_append, ett]
    refine ⟨(X9'.trans (.of s10)).at nf _, ?_, vs ++ [.ref t], upd_same, ?_⟩
    · rw [eflat, show k + (((fs.take i).flatMap fnLines).length + ((bodyT 8 1 fn.body).length + 1)) = k + ((fs.take i).flatMap fnLines).length + 1 + (bodyT 8 1 fn.body).length by omega]
      exact (hrd9.same s10).at nf hrd00 nfp
    · have etd : (fs.take (i + 1)).map Fn91.data = (fs.take i).map Fn91.data ++ [fn.data] := by rw [List.take_add_one, efn, List.map_append]; rfl
      rw [etd]
      refine dta_app (hvs9.keep ((tups_of s10).trans t11)) (.cons (.tup (t11.sqT (.inl (.inl upd_same))) ?_) .nil)
      exact .cons (gv9'.keep ((tups_of s10).trans t11)) (.cons (gv9.keep ((tups_of s10).trans t11)) .nil)
  · have ei : i = fs.length := by omega
    subst ei
    rw [List.take_of_length_le (Nat.le_refl _)] at hrd2 ef2 hvs2 lk
    have ne0 : (kvz (fs.map Fn91.name) vs).isEmpty = false := by
      cases e0 : kvz (fs.map Fn91.name) vs with
      | nil => rw [e0] at lk; simp at lk; omega
      | cons a r => rfl
    rw [List.take_of_length_le (Nat.le_refl _)]
    refine iteFb ne0 ⟨_, _, _, hp2, cR, natL, _, rfl, _, _, _, hp2, cR, natS, _, rfl, _, .inl ⟨_, hla2, rfl⟩, _, rfl, iteFb (decide_eq_false (by rw [List.length_map, List.take_of_length_le (Nat.le_refl _)]; omega)) ?_⟩
    walk_at "wp"
    rw [hlen] at hrd2
    exact q H2 f X2 hrd2 nf nfp ⟨vs, ef2, hvs2⟩
end
end K91
set_option Elab.async false
set_option linter.all false
set_option maxRecDepth 100000
set_option maxHeartbeats 8000000
namespace K91
open PySem PySem.Spec PyProof.Rows L2 _root_.SX PySem.NumText
local macro_rules | `(tactic| walk_at "wp") => `(tactic| try simp only [cxK, cxw, cxK', cxw', start1, start2, start3, start4, start5, tRet, tRetN, tAsg, gName, gTup, gCons, gNil, gSub, tDrop, tNext, tIfS, tIf, tVar, tC, tAndV, tOrV, tNotV, tAnd, tOr, tNot, tTest, tB, tCB, tCons, tNil, tOp, tUn, rI0, rI, rU, rEq, rNe, rIn, tChain, tFld, sFld, tSl, tPart, tNoPart, tTup, tLst, tCallR, tMethR, tMethO, tBM, tBM0, tM0, tM1, tDGet, tDIn, tDNotIn, tDNewK, tCmp, t2I, tIsN, tNotN, tYes, tLc_eq, tFor_eq, tLenSetN, iItems, iVals, iKeys, iRng1, tLock, tLockE, tCallKw, tMakeKw, tMethKw, StX.tMakeR, tDc_eq, tLc2_eq, sFldAug, rMulS, tListVals, LiI.tListItems, LiI.rItemsL, RZ.iZipA, iStr, iTup, iList, iEnum, iEnumT, tDGet1, tDGet2, tDisp, tPairs, wipe, List.map_cons, List.map_nil,
  List.length_cons, List.length_nil, Nat.reduceAdd, Nat.reduceSub, List.replicate_succ, List.replicate_zero, if_true, if_false, Bool.not_true, Bool.not_false, Bool.false_eq_true, reduceIte,
  List.set_cons_zero, List.set_cons_succ, List.getElem?_cons_zero, List.getElem?_cons_succ, Option.some.injEq, exists_eq_left', exists_eq_left, V.int.injEq, V.str.injEq, V.bl.injEq, V.ref.injEq, V.ty.injEq, List.cons.injEq, and_true, true_and, and_assoc, exists_and_left, List.nil_append, List.cons_append, List.append_nil])
local macro_rules | `(tactic| walk_at "st") => `(tactic| (refine sq ?_; walk_at "wp"))
section
variable {P : Program} {w : World} {K : PySem.W.Frag} {mg : Str → Option Value} {base : Heap}
/-- a program's text is read back -/
def spParse (K : PySem.W.Frag) : Sp := fun vs H Q _ => ∃ fs bs, vs = [.str (progText fs bs)] ∧ LawP fs bs ∧ ∀ H' p, Same H H' → H p = none → ProgN K H H' p fs bs → Q (.ref p) H'
theorem okb_parse_program (T : Top K mg w)  : FnR P w K mg base CX0 60 (He.ga K "parse_program") (spParse K) ∧ FnK P w K mg base 60 (He.ga K "parse_program") (spParse K) 0 ["text"] := by
  obtain ⟨fd, F⟩ := T.def_ d_parse_program (List.mem_of_getElem? (i := 51) rfl)
  refine mkB F sc_parse_program (fun _ _ _ _ _ _ us hl => match us, hl with | [_], _ => rfl) (fun _ _ _ _ _ _ us ws h1 h2 => match us, ws, h1, h2 with | [], [_], _, _ => rfl) (fun vs H Q E h => ?_) (fun cdv A outer s H vs Q E hr h => ?_)
  · obtain ⟨fs, bs, rfl, _⟩ := h; rfl
  obtain ⟨fs, bs, rfl, hP, q⟩ := h
  have G_Reader := ok_Reader___init__ (P := P) (w := w) (base := base) T
  have G_Reader_boxes := ok_Reader_boxes (P := P) (w := w) (base := base) T
  have G_Reader_functions := ok_Reader_functions (P := P) (w := w) (base := base) T
  have G_Program := ok_Program___init__ (P := P) (w := w) (base := base) T
  refine ⟨_, pss_cons (ps_if (pt_not (pt_val (pe_callB (r := rIsi K) call_isi (by rfl) (T.free "isinstance" (by decide +kernel)) (by decide +kernel) (pa_cons (pv 0) (pa_cons (pe_bltn (v := .ty "str") (u := .type "str") (by rfl) (T.free "str" (by decide +kernel)) (by decide +kernel) rfl) pa_nil))))) (pss_one ps_never) pss_nil)
    (pss_cons (ps_asg (pe_split (pv 0) pe_str) (pg_star rfl (pgs_cons (pg_name (i := 1) sc_parse_program.nd rfl (by first | exact Or.inl rfl | exact Or.inr rfl)) (pgs_cons (pg_name (i := 2) sc_parse_program.nd rfl (by first | exact Or.inl rfl | exact Or.inr rfl)) pgs_nil))))
    (pss_cons (ps_set (i := 3) sc_parse_program.nd rfl (by first | exact Or.inl rfl | exact Or.inr rfl) (pmk G_Reader hr (T.cls "Reader" (by decide +kernel)).2 (T.glo "Reader" (by decide +kernel)).1 (pa_cons (pv 1) pa_nil)))
    (pss_cons (ps_set (i := 4) sc_parse_program.nd rfl (by first | exact Or.inl rfl | exact Or.inr rfl) (pmeth0' (T.cls "Reader" (by decide +kernel)).1 (T.meth ("Reader", "boxes") (by decide +kernel)) G_Reader_boxes hr (pv 3)))
    (pss_cons (ps_set (i := 5) sc_parse_program.nd rfl (by first | exact Or.inl rfl | exact Or.inr rfl) (pmeth0' (T.cls "Reader" (by decide +kernel)).1 (T.meth ("Reader", "functions") (by decide +kernel)) G_Reader_functions hr (pv 3)))
    (pss_cons (ps_if (pt_cmpR (op_ne) (pv 2) pe_str (nomark _)) (pss_one ps_never) pss_nil)
    (pss_one (ps_ret (pmakeK G_Program hr (T.cls "Program" (by decide +kernel)).2 (T.glo "Program" (by decide +kernel)).1 (pa_cons (pv 5) pa_nil) (pk_cons (pv 4) pk_nil))))))))), ?_⟩
  have zl := line_big
  have hlen := hP.len
  have hls := hP.ls
  refine sq ?_
  walk_at "wp"
  refine isi_ask (d := .str (progText fs bs)) (.str _) (kit_str _) ⟨_, rfl, iteFb (by rw [isi_strE]; rfl) ?_⟩
  refine sq ?_
  walk_at "wp"
  refine ⟨⟨_, rfl⟩, rfl, by rw [sizeLine_eq]; omega, ?_⟩
  rw [show Txt.split (progText fs bs) (Str.ofString "\n") = progLines fs bs ++ [Str.empty] from hP.split]
  intro sl nsl
  have many := hP.many
  refine ⟨sl, (progLines fs bs).map V.str, V.str Str.empty, rfl, .of (by rw [upd_same, List.map_append]; rfl), by rw [List.length_map]; omega, fun D nD => ?_⟩
  have s1 := (same_new nsl (.lst ((progLines fs bs ++ [Str.empty]).map V.str))).trans (same_new nD (.lst ((progLines fs bs).map V.str)))
  have eD : (upd (upd H sl (.lst ((progLines fs bs ++ [Str.empty]).map V.str))) D (.lst ((progLines fs bs).map V.str))) D = some (.lst ((progLines fs bs).map V.str)) := upd_same
  generalize upd (upd H sl (.lst ((progLines fs bs ++ [Str.empty]).map V.str))) D (.lst ((progLines fs bs).map V.str)) = H1 at s1 eD ⊢
  walk_at "wp"
  refine sq ?_
  walk_at "wp"
  intro rp rdx nrp nrdx nne
  have sM := same_make (C := He.ga K "Reader") nrp nrdx
  refine ⟨rp, rdx, _, rfl, upd_same, fun H2 X2 e2 => ⟨rfl, ?_⟩⟩
  have s2 := SameX.new nrp nrdx nne (C := He.ga K "Reader") X2
  have eD2 := s2 _ _ eD
  have nDrp : D ≠ rp := by rintro rfl; rw [eD] at nrp; cases nrp
  have hrd : RdAt K H2 rp D (lsOf fs bs) 0 := ⟨hls.1, hls.2, rdx, e2, by rw [ls_map]; exact .of eD2, nDrp⟩
  have s12 := s1.trans s2
  refine sq ?_
  walk_at "wp"
  refine ⟨rdx, _, e2, rfl, rp, D, lsOf fs bs, bs, rfl, hrd, hP.boxes, ls_box fs bs, ls_other hP.fns.1, fun H3 bl X3 hrd3 nbl hbl => ?_⟩
  obtain ⟨_, _, dx3, hp3, _, _⟩ := id hrd3
  have nblrp : bl ≠ rp := by rintro rfl; rw [e2] at nbl; cases nbl
  refine sq ?_
  walk_at "wp"
  refine ⟨dx3, _, hp3, rfl, rp, D, lsOf fs bs, bs.length, fs, rfl, hrd3, hP.fns.1, hP.fns.2.1, hP.fns.2.2.2.1, hP.fns.2.2.1, fun f hf => (ok_R 8 0 _ (by omega) (lawB_ok 8 0 _ (hP.body f hf))).1, ls_fns fs bs, ls_len fs bs, fun H4 fa X4 hrd4 nfa nfarp hfa => ?_⟩
  obtain ⟨bv, hbv, hbd⟩ := hbl
  have hbl4 : RowsAt K H4 bl bs := ⟨bv, X4.x _ _ nblrp hbv, hbd.keep X4.t⟩
  refine sq ?_
  walk_at "wp"
  refine ⟨rfl, iteFb (by decide +kernel) ?_⟩
  intro pp pdx npp npdx pne
  have s4 : Same H H4 := fun b u e => by
    have e1 := s1 _ _ e
    have hb : b ≠ rp := by rintro rfl; rw [e1] at nrp; cases nrp
    exact X4.x _ _ hb (X3.x _ _ hb (s2 _ _ e1))
  have sP := same_make (C := He.ga K "Program") npp npdx
  have nfp : fa ≠ pp := by
    obtain ⟨_, ef, _⟩ := id hfa
    rintro rfl; rw [ef] at npp; cases npp
  have nbp : bl ≠ pp := by
    obtain ⟨_, ef, _⟩ := id hbl4
    rintro rfl; rw [ef] at npp; cases npp
  refine ⟨pp, pdx, fa, bl, fs, bs, rfl, upd_same, hfa.same sP, hbl4.same sP, hP.ok, nfp, nbp, fun H5 X5 hpr => ⟨rfl, q H5 pp (s4.trans (SameX.new npp npdx pne (C := He.ga K "Program") X5)) ?_ (hpr.back (s4.trans sP))⟩⟩
  cases e : H pp with
  | none => rfl
  | some u => rw [s4 _ _ e] at npp; cases npp
theorem ok_parse_program (T : Top K mg w) : FnR P w K mg base CX0 60 (He.ga K "parse_program") (spParse K) := (okb_parse_program T).1
theorem okk_parse_program (T : Top K mg w) : FnK P w K mg base 60 (He.ga K "parse_program") (spParse K) 0 ["text"] := (okb_parse_program T).2
end
end K91
set_option Elab.async false
set_option linter.all false
set_option maxRecDepth 100000
set_option maxHeartbeats 8000000
namespace K91
open PySem PySem.Spec PyProof.Rows L2 _root_.SX
section
variable {P : Program} {w : World} {K : PySem.W.Frag} {mg : Str → Option Value} {base : Heap}
/-- the text of a program, both ways: True -/
def spRight (K : PySem.W.Frag) : Sp := fun vs H Q _ => ∃ ta la fs bs, vs = [.ref ta, .ref la] ∧ TabAt K H ta fs ∧ RowsAt K H la bs ∧ LawP fs bs ∧ ∀ H', Same H H' → Q (.bl true) H'
theorem mon_prog {K : PySem.W.Frag} : Mon (DIns (He.ga K "Program") (ProgEq K)) := mon_ins fun a b H H' e ⟨fs, bs, h1, h2, h3⟩ => ⟨fs, bs, h1.same e, h2.same e, h3⟩
end
end K91
set_option Elab.async false
set_option linter.all false
set_option maxRecDepth 100000
set_option maxHeartbeats 8000000
namespace K91
open PySem PySem.Spec PyProof.Rows L2 _root_.SX
local macro_rules | `(tactic| walk_at "wp") => `(tactic| try simp only [cxK, cxw, cxK', cxw', start1, start2, start3, start4, start5, tRet, tRetN, tAsg, gName, gTup, gCons, gNil, gSub, tDrop, tNext, tIfS, tIf, tVar, tC, tAndV, tOrV, tNotV, tAnd, tOr, tNot, tTest, tB, tCB, tCons, tNil, tOp, tUn, rI0, rI, rU, rEq, rNe, rIn, tChain, tFld, sFld, tSl, tPart, tNoPart, tTup, tLst, tCallR, tMethR, tMethO, tBM, tBM0, tM0, tM1, tDGet, tDIn, tDNotIn, tDNewK, tCmp, t2I, tIsN, tNotN, tYes, tLc_eq, tFor_eq, tLenSetN, iItems, iVals, iKeys, iRng1, tLock, tLockE, tCallKw, tMakeKw, tMethKw, StX.tMakeR, tDc_eq, tLc2_eq, sFldAug, rMulS, tListVals, LiI.tListItems, LiI.rItemsL, RZ.iZipA, iStr, iTup, iList, iEnum, iEnumT, tDGet1, tDGet2, tDisp, tPairs, wipe, List.map_cons, List.map_nil,
  List.length_cons, List.length_nil, Nat.reduceAdd, Nat.reduceSub, List.replicate_succ, List.replicate_zero, if_true, if_false, Bool.not_true, Bool.not_false, Bool.false_eq_true, reduceIte,
  List.set_cons_zero, List.set_cons_succ, List.getElem?_cons_zero, List.getElem?_cons_succ, Option.some.injEq, exists_eq_left', exists_eq_left, V.int.injEq, V.str.injEq, V.bl.injEq, V.ref.injEq, V.ty.injEq, List.cons.injEq, and_true, true_and, and_assoc, exists_and_left, List.nil_append, List.cons_append, List.append_nil])
local macro_rules | `(tactic| walk_at "st") => `(tactic| (refine sq ?_; walk_at "wp"))
section
variable {P : Program} {w : World} {K : PySem.W.Frag} {mg : Str → Option Value} {base : Heap}
theorem SX2.atT {p q D : Addr} {H H' : Hp} {o : HO} (n : H D = none) (s : SX2 p q H H') (t : Tups H' (upd H' D o)) : SX2 p q H (upd H' D o) := ⟨fun b u h1 h2 e => by
  rw [upd_ne (ne_new e n)]
  exact s.x b u h1 h2 e, s.t.trans t⟩
/-- functions of a world, the first i -/
structure FnsD (W : WorldD) (l0 l : Int) (i : Nat) (fs : List Fn91) : Prop where
  ctx : fs.map (fun f => (f.name, f.heads.length)) = W.sizes.take i
  ok : ∀ f ∈ fs, f.heads.length ≤ 5 ∧ (∀ h ∈ f.heads, nameB h = true) ∧ f.heads.Nodup
  body : ∀ f ∈ fs, lawB (cxW W) 8 0 f.body
  cnt : cntAll fs + 10 * pos l ≤ 5 * i + 10 * pos l0
def DefsI (K : PySem.W.Frag) (HL : Hp) (s wa f : Addr) (a : WA) (W : WorldD) (l0 : Int) (i : Nat) (H' : Hp) : Prop := ∃ fs vs l, H' f = some (.dK (kvz (fs.map Fn91.name) vs)) ∧ DtAll K H' vs (fs.map Fn91.data) ∧ FnsD W l0 l i fs ∧ SX2 s wa HL H' ∧ SrcAt H' s ∧ WAt H' wa a W l
def spDefs (K : PySem.W.Frag) : Sp := fun vs H Q _ => ∃ s wa W left, vs = [.ref s, .ref wa] ∧ SrcAt H s ∧ WUt H wa W left ∧ WOk W ∧ ∀ H' fa fs l, SX2 s wa H H' → SrcAt H' s → WUt H' wa W l → H fa = none → TabAt K H' fa fs → FnsD W left l W.sizes.length fs → Q (.ref fa) H'
theorem ok__law_definitions (T : Top K mg w)  : FnR P w K mg base CX0 32 (He.ga K "_law_definitions") (spDefs K) := by
  obtain ⟨fd, F⟩ := T.def_ d__law_definitions (List.mem_of_getElem? (i := 66) rfl)
  refine mkR F sc__law_definitions (fun _ _ _ _ _ _ us hl => match us, hl with | [_, _], _ => rfl) (fun vs H Q E h => ?_) (fun cdv A outer s H vs Q E hr h => ?_)
  · obtain ⟨s, wa, W, left, rfl, _⟩ := h; rfl
  obtain ⟨s, wa, W, left, rfl, hs, hw, ok, q⟩ := h
  have G__law_body := ok__law_body (P := P) (w := w) (base := base) T
  have G__law_shuffled := ok__law_shuffled (P := P) (w := w) (base := base) T
  refine ⟨_, pss_cons (ps_set (i := 2) sc__law_definitions.nd rfl (by first | exact Or.inl rfl | exact Or.inr rfl) pe_dnewK)
    (pss_cons (ps_lock (ps_for PassesOwn.never rfl (pi_keys (pe_dget (hu_of hr) (pv 1) pe_str (fun _ _ => rfl))) (pg_name (i := 3) sc__law_definitions.nd rfl (by first | exact Or.inl rfl | exact Or.inr rfl))
    (pss_cons (ps_set (i := 4) sc__law_definitions.nd rfl (by first | exact Or.inl rfl | exact Or.inr rfl) (pe_slice (r := rSlL K) sl_list (pcall G__law_shuffled hr (T.glo "_law_shuffled" (by decide +kernel)) (pa_cons (pv 0) (pa_cons (pe_dget (hu_of hr) (pv 1) pe_str (fun _ _ => rfl)) pa_nil))) po_none (po_some (pe_dget (hu_of hr) (pe_dget (hu_of hr) (pv 1) pe_str (fun _ _ => rfl)) (pv 3) (fun _ _ => rfl)))))
    (pss_one (ps_dput (hu_of hr) (pv 2) (pv 3) (pe_tup (pa_cons (pe_callTy call_tuple_of (by rfl) (T.free "tuple" (by decide +kernel)) (by decide +kernel) (pa_cons (pv 4) pa_nil)) (pa_cons (pcall G__law_body hr (T.glo "_law_body" (by decide +kernel)) (pa_cons (pv 0) (pa_cons (pv 1) (pa_cons pe_int (pa_cons pe_int pa_nil))))) pa_nil))) rfl)))))
    (pss_one (ps_ret (pv 2)))), ?_⟩
  have zl := line_big
  obtain ⟨n, k, c, z, ew, en, ek, ec, ez⟩ := id hw
  refine sq ?_
  walk_at "wp"
  intro f nf
  have s1 := same_new nf (.dK [])
  refine sq ?_
  walk_at "wp"
  refine ⟨z, _, s1 _ _ ez, trivial, fun od => ?_⟩
  have nwz : wa ≠ z := by
    rintro rfl
    rw [ew] at ez
    have e := HO.dK.inj (Option.some.inj ez)
    unfold WorldK sizesK at e
    cases hz : W.sizes with
    | nil => rw [hz] at e; cases e
    | cons a r =>
      rw [hz, List.map_cons] at e
      have e2 := congrArg Prod.snd (List.cons.inj e).1
      cases e2
  have nnz : n ≠ z := by rintro rfl; rw [en] at ez; cases ez
  have nkz : k ≠ z := by rintro rfl; rw [ek] at ez; cases ez
  have ncz : c ≠ z := by rintro rfl; rw [ec] at ez; cases ez
  have nfz : f ≠ z := Ne.symm (ne_new ez nf)
  have nzs : z ≠ s := by rintro rfl; obtain ⟨_, _, e, _⟩ := hs; rw [ez] at e; cases e
  have nws : wa ≠ s := by rintro rfl; obtain ⟨_, _, e, _⟩ := hs; rw [ew] at e; cases e
  have nfs := hs.new nf
  have hwM : WAt (upd (upd H f (.dK [])) z (.frz od (.dK (sizesK W.sizes)))) wa ⟨n, k, c, z, od⟩ W left := ⟨by rw [upd_ne nwz]; exact s1 _ _ ew, by rw [upd_ne nnz]; exact s1 _ _ en, by rw [upd_ne nkz]; exact s1 _ _ ek, by rw [upd_ne ncz]; exact s1 _ _ ec, upd_same⟩
  have hsM : SrcAt (upd (upd H f (.dK [])) z (.frz od (.dK (sizesK W.sizes)))) s := (hs.same s1).upd nzs
  have efM : (upd (upd H f (.dK [])) z (.frz od (.dK (sizesK W.sizes)))) f = some (.dK []) := by rw [upd_ne nfz, upd_same]
  have sLM : Same (upd H z (.frz od (.dK (sizesK W.sizes)))) (upd (upd H f (.dK [])) z (.frz od (.dK (sizesK W.sizes)))) := fun b u e => by
    by_cases hb : b = z
    · subst hb; rw [upd_same] at e ⊢; exact e
    · rw [upd_ne hb] at e ⊢; exact s1 b u e
  have nfL : (upd H z (.frz od (.dK (sizesK W.sizes)))) f = none := by rw [upd_ne nfz]; exact nf
  have hwL : WAt (upd H z (.frz od (.dK (sizesK W.sizes)))) wa ⟨n, k, c, z, od⟩ W left := ⟨by rw [upd_ne nwz]; exact ew, by rw [upd_ne nnz]; exact en, by rw [upd_ne nkz]; exact ek, by rw [upd_ne ncz]; exact ec, upd_same⟩
  have tL := tups_put (.frz od (.dK (sizesK W.sizes))) ez (fun _ z => by cases z) fun _ _ z => by cases z
  have ezL : (upd H z (.frz od (.dK (sizesK W.sizes)))) z = some (.frz od (.dK (sizesK W.sizes))) := upd_same
  have xL : ∀ b u, b ≠ z → H b = some u → (upd H z (.frz od (.dK (sizesK W.sizes)))) b = some u := fun b u hb e => by rw [upd_ne hb]; exact e
  refine ⟨_, wget hwM.1 wk_sizes, z, rfl, od, .inl ⟨_, upd_same, ?_⟩⟩
  generalize upd (upd H f (.dK [])) z (.frz od (.dK (sizesK W.sizes))) = HM at hwM hsM efM sLM ⊢
  generalize upd H z (.frz od (.dK (sizesK W.sizes))) = HL at sLM nfL tL ezL xL hwL ⊢
  refine forGo walk_keys (fun i σ H' => ∃ x3 x4, σ = [some (V.ref s), some (V.ref wa), some (V.ref f), x3, x4] ∧ DefsI K HL s wa f ⟨n, k, c, z, od⟩ W left i H')
    ⟨_, _, rfl, [], [], left, efM, .nil, ⟨rfl, (fun f hf => by cases hf), (fun f hf => by cases hf), by show 0 + _ ≤ _; omega⟩, .of (.of sLM), hsM, hwM⟩ (fun i σ H' _ ⟨_, _, _, _, _, _, _, _, _, _, _, hw'⟩ => hw'.2.2.2.2) ?_ ?_
  · rintro i y σ H2 H3 hi ⟨x3, x4, rfl, fs, vs, l, ef, hvs, D, X2, hs2, hw2⟩ ⟨eH, k', v', ek', ex⟩
    subst eH
    obtain ⟨q', eq', rfl, rfl⟩ := sizesK_at ek'
    subst ex
    rw [show (sizesK W.sizes).length = W.sizes.length from by unfold sizesK; rw [List.length_map]] at hi
    have hm4 := (ok.zn q' (List.mem_of_getElem? eq')).2
    refine sq ?_
    walk_at "wp"
    refine ⟨_, wget hw2.1 wk_names, s, n, W.names, rfl, hs2, hw2.2.1, by have := ok.n4; omega, fun H4 hl ys X4 hs4 nhl ehl pm => ?_⟩
    have hw4 := hw2.sx hs2 X4
    have lys : ys.length = 4 := by rw [pm.length_eq]; exact ok.n4
    refine ⟨_, wget hw4.1 wk_sizes, z, rfl, _, sget hw4.2.2.2.2 (lookup_nd ok.znd (List.mem_of_getElem? eq')), ?_⟩
    refine ⟨_, rfl, hl, _, rfl, .of ehl, fun h2 nh2 => ?_⟩
    rw [cut_take (by rw [List.length_map]; omega), ← List.map_take]
    have s5 := same_new nh2 (.lst ((ys.take q'.2).map V.str))
    have e5 := upd_same (H := H4) (a := h2) (o := .lst ((ys.take q'.2).map V.str))
    have hs5 := hs4.same s5
    have hw5 := hw4.same s5
    have X5 : SX2 s wa HL _ := X2.trans (.of (X4.trans (.of s5)))
    have ef5 := s5 _ _ (X4.x _ _ nfs ef)
    have hvs5 := hvs.keep (X4.t.trans (tups_of s5))
    generalize upd H4 h2 (.lst ((ys.take q'.2).map V.str)) = H5 at s5 e5 hs5 hw5 X5 ef5 hvs5 ⊢
    simp only [sDPut]
    walk_at "wp"
    refine ⟨_, .inl ⟨.of e5, fun tt ntt => ?_⟩⟩
    have s6 := same_new ntt (.tup ((ys.take q'.2).map V.str))
    have hyn : ∀ x ∈ ys.take q'.2, nameB x = true := fun x hx => ok.names x (pm.mem_iff.mp (List.mem_of_mem_take hx))
    have g6 : Dt K (upd H5 tt (.tup ((ys.take q'.2).map V.str))) (.ref tt) (.tuple ((ys.take q'.2).map .str)) := dt_new ntt (dt_strs hyn)
    have nfw : f ≠ wa := Ne.symm (ne_new hwL.1 nfL)
    refine ⟨s, wa, ⟨n, k, c, z, od⟩, W, l, 1, 0, rfl, hs5.same s6, hw5.same s6, ok, rfl, by decide, by decide, fun H7 v7 d7 l7 X7 hs7 hw7 g7 hb7 hc7 => ⟨by omega, fun t nt => ?_⟩⟩
    have s8 := same_new nt (.tup [V.ref tt, v7])
    have ef8 := s8 _ _ (X7.x _ _ nfs nfw (s6 _ _ ef5))
    have hDl := congrArg List.length D.ctx
    rw [List.length_map, List.length_take] at hDl
    have hnames : fs.map Fn91.name = (W.sizes.take i).map Prod.fst := by
      rw [← D.ctx, List.map_map]
      rfl
    have hnot : q'.1 ∉ fs.map Fn91.name := fun zz => by
      rw [hnames, List.map_take] at zz
      have := nodup_take ok.znd (i := i) (x := q'.1) (by rw [List.getElem?_map, eq']; rfl)
      rw [List.contains_iff_mem.mpr zz] at this
      cases this
    have lvs := dta_len hvs
    rw [List.length_map] at lvs
    have hz4 := ok.z4
    refine ⟨_, .k (k := .inr q'.1) ef8 (by rw [kvz_len (by rw [List.length_map]; exact lvs), List.length_map]; omega), fs ++ [⟨q'.1, ys.take q'.2, d7⟩], vs ++ [.ref t], l7, ?_, ?_, ?_, ?_, ?_, ?_⟩
    · rw [upd_same, put_new hnot, List.map_append, kvz_app (by rw [List.length_map]; exact lvs)]
      rfl
    · have t9 := tups_lock ef8 (.dK (putK (kvz (fs.map Fn91.name) vs) (.inr q'.1) (.ref t)))
      have tA := ((tups_of s6).trans X7.t).trans ((tups_of s8).trans t9)
      rw [List.map_append]
      refine dta_app (hvs5.keep tA) (.cons (.tup (t9.sqT (.inl (.inl upd_same))) (.cons (g6.keep (X7.t.trans ((tups_of s8).trans t9))) (.cons (g7.keep ((tups_of s8).trans t9)) .nil))) .nil)
    · refine ⟨?_, fun g hg => ?_, fun g hg => ?_, ?_⟩
      · rw [List.map_append, D.ctx, List.take_add_one, eq', Option.toList_some]
        show _ ++ [(q'.1, (ys.take q'.2).length)] = _
        rw [List.length_take, Nat.min_eq_left (by omega)]
      · rcases List.mem_append.mp hg with h | h
        · exact D.ok g h
        · rw [List.mem_singleton.mp h]
          refine ⟨?_, hyn, ?_⟩
          · show (ys.take q'.2).length ≤ 5
            rw [List.length_take]; omega
          · exact (pm.nodup_iff.mpr ok.nnd).sublist (List.take_sublist _ _)
      · rcases List.mem_append.mp hg with h | h
        · exact D.body g h
        · rw [List.mem_singleton.mp h]
          exact hb7
      · have hcn := D.cnt
        unfold cntAll at hcn ⊢
        rw [List.map_append, List.sum_append, List.map_singleton, List.sum_singleton]
        show _ + cntB 8 d7 + _ ≤ _
        omega
    · exact SX2.atT nfL ((X5.trans (.of (.of s6))).trans (X7.trans (.of (.of s8)))) (tups_lock ef8 _)
    · exact (hs7.same s8).upd nfs
    · exact hwL.upd nfL (hw7.same s8) _
  · rintro σ H2 ⟨x3, x4, rfl, fs, vs, l, ef, hvs, D, X2, hs2, hw2⟩
    have ez2 := hw2.2.2.2.2
    have tz := tups_frz ez2 (.dK (sizesK W.sizes))
    rw [show (sizesK W.sizes).length = W.sizes.length from by unfold sizesK; rw [List.length_map]] at D
    refine ⟨ez2, V.ref f, rfl, q _ f fs l ⟨fun b u h1 h2 e => ?_, (tL.trans X2.t).trans tz⟩ (hs2.upd nzs) ⟨n, k, c, z, by rw [upd_ne nwz]; exact hw2.1, by rw [upd_ne nnz]; exact hw2.2.1, by rw [upd_ne nkz]; exact hw2.2.2.1, by rw [upd_ne ncz]; exact hw2.2.2.2.1, upd_same⟩ nf ⟨vs, by rw [upd_ne nfz]; exact ef, hvs.keep tz⟩ D⟩
    by_cases hb : b = z
    · subst hb
      rw [upd_same, ← ez, e]
    · rw [upd_ne hb]
      exact X2.x b u h1 h2 (xL b u hb e)
end
end K91
set_option Elab.async false
set_option linter.all false
set_option maxRecDepth 100000
set_option maxHeartbeats 8000000
namespace K91
open PySem PySem.Spec PyProof.Rows L2 _root_.SX
local macro_rules | `(tactic| walk_at "wp") => `(tactic| try simp only [cxK, cxw, cxK', cxw', start1, start2, start3, start4, start5, tRet, tRetN, tAsg, gName, gTup, gCons, gNil, gSub, tDrop, tNext, tIfS, tIf, tVar, tC, tAndV, tOrV, tNotV, tAnd, tOr, tNot, tTest, tB, tCB, tCons, tNil, tOp, tUn, rI0, rI, rU, rEq, rNe, rIn, tChain, tFld, sFld, tSl, tPart, tNoPart, tTup, tLst, tCallR, tMethR, tMethO, tBM, tBM0, tM0, tM1, tDGet, tDIn, tDNotIn, tDNewK, tCmp, t2I, tIsN, tNotN, tYes, tLc_eq, tFor_eq, tLenSetN, iItems, iVals, iKeys, iRng1, tLock, tLockE, tCallKw, tMakeKw, tMethKw, StX.tMakeR, tDc_eq, tLc2_eq, sFldAug, rMulS, tListVals, LiI.tListItems, LiI.rItemsL, RZ.iZipA, iStr, iTup, iList, iEnum, iEnumT, tDGet1, tDGet2, tDisp, tPairs, wipe, List.map_cons, List.map_nil,
  List.length_cons, List.length_nil, Nat.reduceAdd, Nat.reduceSub, List.replicate_succ, List.replicate_zero, if_true, if_false, Bool.not_true, Bool.not_false, Bool.false_eq_true, reduceIte,
  List.set_cons_zero, List.set_cons_succ, List.getElem?_cons_zero, List.getElem?_cons_succ, Option.some.injEq, exists_eq_left', exists_eq_left, V.int.injEq, V.str.injEq, V.bl.injEq, V.ref.injEq, V.ty.injEq, List.cons.injEq, and_true, true_and, and_assoc, exists_and_left, List.nil_append, List.cons_append, List.append_nil])
local macro_rules | `(tactic| walk_at "st") => `(tactic| (refine sq ?_; walk_at "wp"))
section
variable {P : Program} {w : World} {K : PySem.W.Frag} {mg : Str → Option Value} {base : Heap}
def RowsI (K : PySem.W.Frag) (H0 : Hp) (s rl : Addr) (cs : List Str) (i : Nat) (acc : List V) (H' : Hp) : Prop := ∃ bs : List Box91, DtAll K H' acc (bs.map Box91.data) ∧ bs.map Box91.name = cs.take i ∧ (∀ b ∈ bs, boxOk b) ∧ SX s H0 H' ∧ SrcAt H' s ∧ H' rl = some (.lst (rulesL.map V.str))
def spBoxRows (K : PySem.W.Frag) : Sp := fun vs H Q _ => ∃ s wa W l, vs = [.ref s, .ref wa] ∧ SrcAt H s ∧ WUt H wa W l ∧ WOk W ∧ ∀ H' la bs, SX s H H' → SrcAt H' s → H la = none → RowsAt K H' la bs → boxesOk bs → bs.map Box91.name = W.crates → Q (.ref la) H'
theorem ok__law_box_rows (T : Top K mg w)  : FnR P w K mg base CX0 3 (He.ga K "_law_box_rows") (spBoxRows K) := by
  obtain ⟨fd, F⟩ := T.def_ d__law_box_rows (List.mem_of_getElem? (i := 67) rfl)
  refine mkR F sc__law_box_rows (fun _ _ _ _ _ _ us hl => match us, hl with | [_, _], _ => rfl) (fun vs H Q E h => ?_) (fun cdv A outer s H vs Q E hr h => ?_)
  · obtain ⟨s, wa, W, l, rfl, _⟩ := h; rfl
  obtain ⟨s, wa, W, l, rfl, hs, hw, ok, q⟩ := h
  have G__law_choose := ok_chooseN (P := P) (w := w) (base := base) T
  have G__law_value := ok__law_value (P := P) (w := w) (base := base) T
  refine ⟨_, pss_cons (ps_set (i := 2) sc__law_box_rows.nd rfl (by first | exact Or.inl rfl | exact Or.inr rfl) (pe_lst (pa_cons pe_str (pa_cons pe_str (pa_cons pe_str pa_nil)))))
    (pss_one (ps_ret (pe_lc (own := [("_law_word", 3)]) (g := (gName 3)) (tt := tYes) rfl sc__law_box_rows.nd (pi_list (pe_dget (hu_of hr) (pv 1) pe_str (fun _ _ => rfl))) (blkOk_by (own := [("_law_word", 3)]) (N := ["_law_source_here", "_law_world_here", "_law_rules", "_law_word"]) (sc := defScope s__law_box_rows) (by decide +kernel)) (fun _ _ _ _ _ => (pg_name (i := 3) sc__law_box_rows.nd rfl (by first | exact Or.inl rfl | exact Or.inr rfl))) (fun _ _ _ _ _ => pts_nil) (fun _ _ _ _ _ => (pe_tup (pa_cons (pv 3) (pa_cons (pcall G__law_choose hr (T.glo "_law_choose" (by decide +kernel)) (pa_cons (pv 0) (pa_cons (pv 2) pa_nil))) (pa_cons (pcall G__law_value hr (T.glo "_law_value" (by decide +kernel)) (pa_cons (pv 0) pa_nil)) pa_nil)))))))), ?_⟩
  have zl := line_big
  obtain ⟨n, k, c, z, ew, en, ek, ec, ez⟩ := id hw
  refine sq ?_
  walk_at "wp"
  refine ⟨by omega, fun rl nrl => ?_⟩
  obtain ⟨HN, eHN⟩ : ∃ HN, HN = upd H rl (.lst [V.str (Str.ofString "sum"), V.str (Str.ofString "least"), V.str (Str.ofString "greatest")]) := ⟨_, rfl⟩
  have s1 : Same H HN := by rw [eHN]; exact same_new nrl _
  have e1 : HN rl = some (.lst (rulesL.map V.str)) := by rw [eHN]; exact upd_same
  rw [← eHN]
  clear eHN
  have hs1 := hs.same s1
  have ec1 := s1 _ _ ec
  have ew1 := s1 _ _ ew
  refine ⟨_, wget ew1 wk_crates, c, rfl, ⟨_, .of ec1⟩, ?_⟩
  refine lcGoX (walk_list (xs := W.crates.map V.str)) (fun D i acc H' => RowsI K H s rl W.crates i acc H') (fun D nD => ⟨[], .nil, rfl, (fun b hb => by cases hb), (SX.of s1).trans (.of (same_new nD _)), hs1.same (same_new nD _), same_new nD _ _ _ e1⟩) (fun D i acc H' ⟨bs, _, _, _, X, _⟩ => .of (X.x _ _ (strs_ne_src ec hs) ec)) ?_ ?_
  · rintro D i y acc H2 H3 nD hi eD la ⟨bs, hb, hn, ho, X2, hs2, erl⟩ ⟨eH, ey⟩
    subst eH
    obtain ⟨g, eg, rfl⟩ := strs_get ey
    rw [List.length_map] at hi
    have nDs := hs1.new nD
    have nDH := none_of s1 nD
    have nrls := hs.new nrl
    have hc3 := ok.c3
    have hlb := congrArg List.length hn
    rw [List.length_map, List.length_take] at hlb
    have ng := ok.crates g (List.mem_of_getElem? eg)
    walk_at "wp"
    refine ⟨s, rl, rulesL, rfl, hs2, erl, by decide, by decide, fun H4 x4 X4 hs4 hx4 => ⟨s, rfl, hs4, fun H5 i5 X5 hs5 h5a h5b => ⟨by omega, fun t nt => ?_⟩⟩⟩
    have s6 := same_new nt (.tup [V.str g, V.str x4, V.int i5])
    have eD6 := s6 _ _ (X5.x _ _ nDs (X4.x _ _ nDs eD))
    have nDrl : rl ≠ D := by rintro rfl; rw [e1] at nD; cases nD
    have lacc := dta_len hb
    rw [List.length_map] at lacc
    have t7 := tups_lst eD6 (.lst (acc ++ [V.ref t]))
    have hg4 := name_len ng
    have hr4 := rule_len hx4
    refine ⟨acc, eD6, by omega, .mk la ⟨bs ++ [⟨g, x4, i5⟩], ?_, ?_, fun b hb' => ?_, ((X2.trans (X4.trans X5)).trans (.of s6)).at nDH _, (hs5.same s6).upd nDs, by rw [upd_ne nDrl]; exact s6 _ _ (X5.x _ _ nrls (X4.x _ _ nrls erl))⟩⟩
    · rw [List.map_append]
      exact dta_app (hb.keep ((X4.t.trans X5.t).trans ((tups_of s6).trans t7))) (.cons (.tup (t7.sqT (.inl (.inl upd_same))) (.cons (.str _ (by omega)) (.cons (.str _ (by omega)) (.cons (.int _) .nil)))) .nil)
    · rw [List.map_append, hn, List.take_add_one, eg]
      rfl
    · rcases List.mem_append.mp hb' with h | h
      · exact ho b h
      · rw [List.mem_singleton.mp h]
        exact ⟨ng, hx4, h5a, h5b⟩
  · rintro D acc H2 nD eD la ⟨bs, hb, hn, ho, X2, hs2, erl⟩
    rw [List.length_map, List.take_of_length_le (Nat.le_refl _)] at hn
    exact q H2 D bs X2 hs2 (none_of s1 nD) ⟨acc, eD, hb⟩ ⟨by have := congrArg List.length hn; rw [List.length_map] at this; have := ok.c3; omega, ho, by rw [hn]; exact ok.cnd⟩ hn
end
end K91
set_option Elab.async false
set_option linter.all false
set_option maxRecDepth 100000
set_option maxHeartbeats 4000000
namespace K91
open PySem PySem.Spec PyProof.Rows L2
/-! ### the drawn programs are programs of the law -/
theorem lawB_bodyB {c : Cx91} {n l : Nat} {d : PyData} (h : lawB c n l d) : bodyB d = true := by
  cases n with
  | zero => exact h.elim
  | succ n =>
    obtain ⟨ds, rfl, h1, h2, _⟩ := h
    show (decide ((1 : Int) ≤ (ds.length : Nat)) && decide (((ds.length : Nat) : Int) ≤ 20)) = true
    rw [decide_eq_true (by omega), decide_eq_true (by omega)]
    rfl
theorem law_drawn {W : WorldD} {l : Int} {fs : List Fn91} {bs : List Box91} (ok : WOk W) (D : FnsD W 14 l W.sizes.length fs) (hb : boxesOk bs) (hn : bs.map Box91.name = W.crates) : LawP fs bs := by
  have ec : fs.map (fun f => (f.name, f.heads.length)) = W.sizes := by rw [D.ctx, List.take_length]
  have el : fs.length = W.sizes.length := by rw [← ec, List.length_map]
  have en : fs.map Fn91.name = W.sizes.map Prod.fst := by
    rw [← ec, List.map_map]
    rfl
  have z1 := ok.z1
  have z4 := ok.z4
  refine ⟨⟨by omega, by omega, fun f hf => ?_, by rw [en]; exact ok.znd, by rw [en]; exact ok.zmain⟩, hb, fun f hf => ?_, ?_⟩
  · obtain ⟨h1, h2, h3⟩ := D.ok f hf
    have hm : (f.name, f.heads.length) ∈ W.sizes := by rw [← ec]; exact List.mem_map_of_mem (f := fun f => (f.name, f.heads.length)) hf
    exact ⟨(ok.zn _ hm).1, h1, h2, h3, lawB_bodyB (D.body f hf)⟩
  · have e : ctxOf fs bs = cxW W := by
      unfold ctxOf cxW
      rw [ec, hn]
    rw [e]
    exact D.body f hf
  · have c := D.cnt
    have p : pos 14 = 14 := rfl
    rw [p] at c
    omega
theorem lookup_perm {a b : List (Str × Nat)} (p : a.Perm b) (nd : (b.map Prod.fst).Nodup) (f : Str) : a.lookup f = b.lookup f := by
  have nda : (a.map Prod.fst).Nodup := (p.map Prod.fst).nodup_iff.mpr nd
  by_cases h : ∃ q ∈ b, q.1 = f
  · obtain ⟨q, hq, rfl⟩ := h
    rw [lookup_nd nd hq, lookup_nd nda (p.mem_iff.mpr hq)]
  · have e1 : b.lookup f = none := by
      rw [List.lookup_eq_none_iff]
      intro q hq
      simpa using fun z => h ⟨q, hq, z.symm⟩
    have e2 : a.lookup f = none := by
      rw [List.lookup_eq_none_iff]
      intro q hq
      simpa using fun z => h ⟨q, p.mem_iff.mp hq, z.symm⟩
    rw [e1, e2]
/-- the functions in another order, the boxes turned round -/
theorem LawP.perm {fs gs : List Fn91} {bs : List Box91} (h : LawP fs bs) (p : gs.Perm fs) : LawP gs bs.reverse := by
  obtain ⟨o1, o2, o3, o4, o5⟩ := h.fns
  have pn := p.map Fn91.name
  refine ⟨⟨by rw [p.length_eq]; exact o1, by rw [p.length_eq]; exact o2, fun q hq => o3 q (p.mem_iff.mp hq), pn.nodup_iff.mpr o4, pn.mem_iff.mpr o5⟩, ⟨by rw [List.length_reverse]; exact h.boxes.1, fun b hb => h.boxes.2.1 b (List.mem_reverse.mp hb), ?_⟩, fun f hf => ?_, ?_⟩
  · rw [List.map_reverse]
    exact (List.reverse_perm _).nodup_iff.mpr h.boxes.2.2
  · refine lawB_ctx (c := ctxOf fs bs) (fun g => ?_) (fun b hb => ?_) 8 0 f.body (h.body f (p.mem_iff.mp hf))
    · refine lookup_perm (p.map fun f => (f.name, f.heads.length)) ?_ g
      rw [List.map_map]
      exact o4
    · show b ∈ bs.reverse.map Box91.name
      rw [List.map_reverse]
      exact List.mem_reverse.mpr hb
  · have e : cntAll gs = cntAll fs := by
      unfold cntAll
      exact (p.map _).sum_nat
    rw [e]
    exact h.cnt
/-! ### the long program -/
def setD (q : Str × Int) : PyData := .tuple [.str "set", .str q.1, .int q.2]
def lastD : List PyData := [.tuple [.str "call", .str "x", .str "main", .tuple []], .tuple [.str "loop", .tuple [.tuple [.str "break", .int 1]]], .tuple [.str "return", .str "x"]]
def longD (xs : List (Str × Int)) : PyData := .tuple (xs.map setD ++ lastD)
def longX (xs : List (Str × Int)) : Prop := xs.length = 17 ∧ ∀ q ∈ xs, nameB q.1 = true ∧ -500 ≤ q.2 ∧ q.2 ≤ 500
structure LongP (ws : List Str) (fs : List Fn91) (bs : List Box91) : Prop where
  len : ws.length = 11
  nm : ∀ x ∈ ws, nameB x = true
  nd : (("main" : Str) :: ws).Nodup
  names : (fs.map Fn91.name).Perm ("main" :: ws)
  body : ∀ f ∈ fs, f.heads = [] ∧ ∃ xs, longX xs ∧ f.body = longD xs
  boxes : bs.map Box91.name = ws.take 8
  box : ∀ b ∈ bs, b.rule = "least" ∧ 0 ≤ b.val ∧ b.val ≤ 9
theorem nm_x : nameB "x" = true := by decide +kernel
theorem name_main : nameB "main" = true := by decide +kernel
theorem nested_int {n : Nat} {i : Int} (h1 : -limit ≤ i) (h2 : i ≤ limit) : nestedB (n + 1) (.int i) = true := by
  show (isValD (.int i) || isNameD (.int i) || opD (nestedB n) n (.int i)) = true
  have : isValD (.int i) = true := by
    show (decide (-limit ≤ i) && decide (i ≤ limit)) = true
    rw [decide_eq_true h1, decide_eq_true h2]; rfl
  rw [this]
  rfl
theorem set_S {c : Cx91} {B : Nat → PyData → Prop} {l : Nat} {q : Str × Int} (h : nameB q.1 = true ∧ -500 ≤ q.2 ∧ q.2 ≤ 500) : lawS c B l (setD q) :=
  lawL_S (lawL_2 (k1 := "name") (k2 := "expression") (by decide +kernel) (by decide +kernel) (by decide +kernel) (p3_name h.1) (p3_expr (nested_int (by unfold limit; omega) (by unfold limit; omega))) fun l => uses_free (by decide +kernel)) B l
theorem set_cnt {n : Nat} (q : Str × Int) : cntS (cntB n) (setD q) = 1 := by
  unfold setD
  rw [cntS_of (ks := ["name", "expression"]) (by decide +kernel)]
  rfl
theorem long_B {c : Cx91} {xs : List (Str × Int)} (hm : c.sizes.lookup ("main" : Str) = some 0) (h : longX xs) : lawB c 8 0 (longD xs) := by
  obtain ⟨h1, h2⟩ := h
  refine ⟨_, rfl, by simp [lastD], by simp [lastD]; omega, fun s hs => ?_⟩
  rcases List.mem_append.mp hs with hs | hs
  · obtain ⟨q, hq, rfl⟩ := List.mem_map.mp hs
    exact set_S (h2 q hq)
  rcases List.mem_cons.mp hs with rfl | hs
  · exact lawL_S (lawL_3 (k1 := "name") (k2 := "name") (k3 := "args") (by decide +kernel) (by decide +kernel) (by decide +kernel) (by decide +kernel) (p3_name nm_x) (p3_name name_main) (p3_args (by decide) fun e he => by cases he) fun l =>
      ⟨fun _ => ⟨_, _, _, rfl, hm⟩, fun e => absurd e (by decide +kernel), fun e => absurd e (by decide +kernel), fun e => absurd e (by decide +kernel), fun e => absurd e (by decide +kernel)⟩) _ _
  rcases List.mem_cons.mp hs with rfl | hs
  · refine lawS_loop ⟨_, rfl, by decide, by decide, fun s hs => ?_⟩
    rw [List.mem_singleton.mp hs]
    exact ⟨"break", [.int 1], ["jump"], rfl, by decide +kernel, rfl, fun q hq => by rw [List.mem_singleton.mp hq]; exact p3_jump (by decide),
      ⟨fun e => absurd e (by decide +kernel), fun e => absurd e (by decide +kernel), fun e => absurd e (by decide +kernel), fun e => absurd e (by decide +kernel), fun _ => ⟨1, rfl, by decide⟩⟩, by rw [bodies_none (by decide +kernel)]; exact fun b z => by cases z⟩
  rcases List.mem_cons.mp hs with rfl | hs
  · exact lawL_S (lawL_1 (k := "expression") (by decide +kernel) (by decide +kernel) (p3_expr (name_nested 2 nm_x)) fun l => uses_free (by decide +kernel)) _ _
  · cases hs
theorem long_cnt {xs : List (Str × Int)} (h : longX xs) : cntB 8 (longD xs) = 21 := by
  show ((xs.map setD ++ lastD).map (cntS (cntB 7))).sum = 21
  rw [List.map_append, List.sum_append, List.map_map]
  have e1 : ∀ xs : List (Str × Int), (xs.map (cntS (cntB 7) ∘ setD)).sum = xs.length := by
    intro xs
    induction xs with
    | nil => rfl
    | cons a r ih => rw [List.map_cons, List.sum_cons, ih, Function.comp_apply, set_cnt, List.length_cons]; omega
  rw [e1, h.1]
  have e2 : (lastD.map (cntS (cntB 7))).sum = 4 := by decide +kernel
  rw [e2]
theorem LongP.law {ws : List Str} {fs : List Fn91} {bs : List Box91} (h : LongP ws fs bs) : LawP fs bs := by
  have hl : fs.length = 12 := by
    have := h.names.length_eq
    rw [List.length_map, List.length_cons, h.len] at this
    omega
  have nd : (fs.map Fn91.name).Nodup := h.names.nodup_iff.mpr h.nd
  have hmain : ("main" : Str) ∈ fs.map Fn91.name := h.names.mem_iff.mpr List.mem_cons_self
  have hlook : (ctxOf fs bs).sizes.lookup ("main" : Str) = some 0 := by
    obtain ⟨f, hf, e⟩ := List.mem_map.mp hmain
    have ez : (f.name, f.heads.length) = (("main" : Str), 0) := by rw [e, (h.body f hf).1]; rfl
    have hm : (("main" : Str), 0) ∈ fs.map (fun f => (f.name, f.heads.length)) := by rw [← ez]; exact List.mem_map_of_mem (f := fun f => (f.name, f.heads.length)) hf
    exact lookup_nd (l := fs.map fun f => (f.name, f.heads.length)) (q := (("main" : Str), 0)) (by rw [List.map_map]; exact nd) hm
  have hB : ∀ f ∈ fs, lawB (ctxOf fs bs) 8 0 f.body := fun f hf => by
    obtain ⟨_, xs, hx, e⟩ := h.body f hf
    rw [e]
    exact long_B hlook hx
  have hb8 : bs.length = 8 := by
    have := congrArg List.length h.boxes
    rw [List.length_map, List.length_take, h.len] at this
    omega
  refine ⟨⟨by omega, by omega, fun f hf => ?_, nd, hmain⟩, ⟨by omega, fun b hb => ?_, ?_⟩, hB, ?_⟩
  · have hn : nameB f.name = true := by
      have := h.names.mem_iff.mp (List.mem_map_of_mem (f := Fn91.name) hf)
      rcases List.mem_cons.mp this with e | e
      · rw [e]; exact name_main
      · exact h.nm _ e
    exact ⟨hn, by rw [(h.body f hf).1]; decide, by rw [(h.body f hf).1]; exact fun x z => (by cases z), by rw [(h.body f hf).1]; exact List.nodup_nil, lawB_bodyB (hB f hf)⟩
  · obtain ⟨h1, h2, h3⟩ := h.box b hb
    refine ⟨h.nm _ (List.mem_of_mem_take (i := 8) (by rw [← h.boxes]; exact List.mem_map_of_mem (f := Box91.name) hb)), by rw [h1]; decide +kernel, by unfold limit; omega, by unfold limit; omega⟩
  · rw [h.boxes]
    exact (List.nodup_cons.mp h.nd).2.sublist (List.take_sublist _ _)
  · unfold cntAll
    have e : ∀ l : List Fn91, (∀ f ∈ l, cntB 8 f.body = 21) → (l.map fun f => cntB 8 f.body).sum = 21 * l.length := by
      intro l
      induction l with
      | nil => intro _; rfl
      | cons a r ih =>
        intro hh
        rw [List.map_cons, List.sum_cons, ih fun f hf => hh f (List.mem_cons_of_mem _ hf), hh a List.mem_cons_self, List.length_cons]
        omega
    rw [e fs fun f hf => by
      obtain ⟨_, xs, hx, e⟩ := h.body f hf
      rw [e]
      exact long_cnt hx]
    omega
end K91
set_option Elab.async false
set_option linter.all false
set_option maxRecDepth 100000
set_option maxHeartbeats 8000000
namespace K91
open PySem PySem.Spec PyProof.Rows L2 _root_.SX
local macro_rules | `(tactic| walk_at "wp") => `(tactic| try simp only [cxK, cxw, cxK', cxw', start1, start2, start3, start4, start5, tRet, tRetN, tAsg, gName, gTup, gCons, gNil, gSub, tDrop, tNext, tIfS, tIf, tVar, tC, tAndV, tOrV, tNotV, tAnd, tOr, tNot, tTest, tB, tCB, tCons, tNil, tOp, tUn, rI0, rI, rU, rEq, rNe, rIn, tChain, tFld, sFld, tSl, tPart, tNoPart, tTup, tLst, tCallR, tMethR, tMethO, tBM, tBM0, tM0, tM1, tDGet, tDIn, tDNotIn, tDNewK, tCmp, t2I, tIsN, tNotN, tYes, tLc_eq, tFor_eq, tLenSetN, iItems, iVals, iKeys, iRng1, tLock, tLockE, tCallKw, tMakeKw, tMethKw, StX.tMakeR, tDc_eq, tLc2_eq, sFldAug, rMulS, tListVals, LiI.tListItems, LiI.rItemsL, RZ.iZipA, iStr, iTup, iList, iEnum, iEnumT, tDGet1, tDGet2, tDisp, tPairs, wipe, List.map_cons, List.map_nil,
  List.length_cons, List.length_nil, Nat.reduceAdd, Nat.reduceSub, List.replicate_succ, List.replicate_zero, if_true, if_false, Bool.not_true, Bool.not_false, Bool.false_eq_true, reduceIte,
  List.set_cons_zero, List.set_cons_succ, List.getElem?_cons_zero, List.getElem?_cons_succ, Option.some.injEq, exists_eq_left', exists_eq_left, V.int.injEq, V.str.injEq, V.bl.injEq, V.ref.injEq, V.ty.injEq, List.cons.injEq, and_true, true_and, and_assoc, exists_and_left, List.nil_append, List.cons_append, List.append_nil])
local macro_rules | `(tactic| walk_at "st") => `(tactic| (refine sq ?_; walk_at "wp"))
section
variable {P : Program} {w : World} {K : PySem.W.Frag} {mg : Str → Option Value} {base : Heap}
theorem perm_lift {α β : Type} (f : α → β) {l1 l2 : List β} (p : l1.Perm l2) : ∀ fs : List α, fs.map f = l2 → ∃ gs : List α, gs.Perm fs ∧ gs.map f = l1 := by
  induction p with
  | nil => intro fs h; exact ⟨fs, .refl _, h⟩
  | cons x p ih =>
    intro fs h
    match fs, h with
    | a :: r, h =>
      rw [List.map_cons, List.cons.injEq] at h
      obtain ⟨gs, p', e⟩ := ih r h.2
      exact ⟨a :: gs, p'.cons a, by rw [List.map_cons, h.1, e]⟩
  | swap x y l =>
    intro fs h
    match fs, h with
    | a :: b :: r, h =>
      rw [List.map_cons, List.map_cons, List.cons.injEq, List.cons.injEq] at h
      exact ⟨b :: a :: r, List.Perm.swap a b r, by rw [List.map_cons, List.map_cons, h.1, h.2.1, h.2.2]⟩
  | trans p q ih1 ih2 =>
    intro fs h
    obtain ⟨gs, p1, e1⟩ := ih2 fs h
    obtain ⟨hs, p2, e2⟩ := ih1 gs e1
    exact ⟨hs, p2.trans p1, e2⟩
theorem merge_kvz : ∀ {ns : List Str} {us : List V} (ms : List Str) (ws : List V), us.length = ns.length → ws.length = ms.length → (ms ++ ns).Nodup → mergeK (kvz ms ws) (kvz ns us) = kvz (ms ++ ns) (ws ++ us)
  | [], [], ms, ws, _, _, _ => by rw [List.append_nil, List.append_nil]; rfl
  | n :: ns, u :: us, ms, ws, hl, hm, nd => by
    have e : kvz (n :: ns) (u :: us) = (.inr n, u) :: kvz ns us := rfl
    rw [e]
    show mergeK (putK (kvz ms ws) (.inr n) u) (kvz ns us) = _
    have hn : n ∉ ms := fun z => (List.nodup_append.mp nd).2.2 n z n List.mem_cons_self rfl
    rw [put_new hn]
    have e2 : kvz ms ws ++ [(.inr n, u)] = kvz (ms ++ [n]) (ws ++ [u]) := by rw [kvz_app hm]; rfl
    rw [e2, merge_kvz (ms ++ [n]) (ws ++ [u]) (Nat.succ.inj hl) (by simp [hm]) (by rw [List.append_assoc]; exact nd), List.append_assoc, List.append_assoc]
    rfl
theorem paired_app {α β : Type} {F : α → β → Prop} {x : α} {y : β} (h : F x y) : ∀ {a : List α} {b : List β}, Paired F a b → Paired F (a ++ [x]) (b ++ [y])
  | _, _, .nil => .cons h .nil
  | _, _, .cons r t => .cons r (paired_app h t)
theorem dta_rev {K : PySem.W.Frag} {H : Hp} : ∀ {vs : List V} {ds : List PyData}, DtAll K H vs ds → DtAll K H vs.reverse ds.reverse
  | _, _, .nil => .nil
  | _, _, .cons h t => by
    rw [List.reverse_cons, List.reverse_cons]
    exact dta_app (dta_rev t) (.cons h .nil)
theorem TabAt.sx {K : PySem.W.Frag} {H H' : Hp} {s a : Addr} {fs : List Fn91} (h : TabAt K H a fs) (hs : SrcAt H s) (X : SX s H H') : TabAt K H' a fs := by
  obtain ⟨vs, e, g⟩ := h
  have ne : a ≠ s := by rintro rfl; obtain ⟨_, _, e2, _⟩ := hs; rw [e] at e2; cases e2
  exact ⟨vs, X.x _ _ ne e, g.keep X.t⟩
def OthI (K : PySem.W.Frag) (H0 : Hp) (s : Addr) (gs : List Fn91) (i : Nat) (acc : List V) (H' : Hp) : Prop := ∃ (ps : List Addr) (us : List V), acc = ps.map V.ref ∧ Paired (fun (p : Addr) (kv : Key × V) => SqT K H' p [kV kv.1, kv.2]) ps (kvz ((gs.take i).map Fn91.name) us) ∧ DtAll K H' us ((gs.take i).map Fn91.data) ∧ Same H0 H'
def spCell (K : PySem.W.Frag) : Sp := fun vs H Q _ => ∃ s, vs = [.ref s] ∧ SrcAt H s ∧ ∀ H', SX s H H' → SrcAt H' s → Q (.bl true) H'
theorem ok__law_cell_holds (T : Top K mg w) (G__law_text_right : FnG P w K mg base 65 (He.ga K "_law_text_right") (spRight K)) : FnG P w K mg base 70 (He.ga K "_law_cell_holds") (spCell K) := by
  obtain ⟨fd, F⟩ := T.def_ d__law_cell_holds (List.mem_of_getElem? (i := 74) rfl)
  refine mkG F sc__law_cell_holds (fun _ _ _ _ _ _ us hl => match us, hl with | [_], _ => rfl) (fun vs H Q E h => ?_) (fun cdv A outer s H vs Q E hr hgd h => ?_)
  · obtain ⟨s, rfl, _⟩ := h; rfl
  obtain ⟨s, rfl, hs, q⟩ := h
  have G__law_world := ok__law_world (P := P) (w := w) (base := base) T
  have G__law_definitions := ok__law_definitions (P := P) (w := w) (base := base) T
  have G__law_box_rows := ok__law_box_rows (P := P) (w := w) (base := base) T
  have G__law_shuffled := ok__law_shuffled (P := P) (w := w) (base := base) T
  refine ⟨_, pss_cons (ps_for PassesOwn.never rfl (pi_range1 (by rfl) (T.free "range" (by decide +kernel)) (pa_cons pe_int pa_nil)) (pg_name (i := 1) sc__law_cell_holds.nd rfl (by first | exact Or.inl rfl | exact Or.inr rfl))
    (pss_cons (ps_set (i := 2) sc__law_cell_holds.nd rfl (by first | exact Or.inl rfl | exact Or.inr rfl) (pcall G__law_world hr (T.glo "_law_world" (by decide +kernel)) (pa_cons (pv 0) (pa_cons pe_int pa_nil))))
    (pss_cons (ps_asg (pe_tup (pa_cons (pcall G__law_definitions hr (T.glo "_law_definitions" (by decide +kernel)) (pa_cons (pv 0) (pa_cons (pv 2) pa_nil))) (pa_cons (pcall G__law_box_rows hr (T.glo "_law_box_rows" (by decide +kernel)) (pa_cons (pv 0) (pa_cons (pv 2) pa_nil))) pa_nil))) (pg_tup (n := 2) rfl (pgs_cons (pg_name (i := 3) sc__law_cell_holds.nd rfl (by first | exact Or.inl rfl | exact Or.inr rfl)) (pgs_cons (pg_name (i := 4) sc__law_cell_holds.nd rfl (by first | exact Or.inl rfl | exact Or.inr rfl)) pgs_nil))))
    (pss_cons (ps_set (i := 5) sc__law_cell_holds.nd rfl (by first | exact Or.inl rfl | exact Or.inr rfl) (pe_callTy (call_dictP rfl) (by rfl) (T.free "dict" (by decide +kernel)) (by decide +kernel) (pa_cons (pe_lc (own := [("_law_goal", 6)]) (g := (gName 6)) (tt := tYes) rfl sc__law_cell_holds.nd (pi_list (pcall G__law_shuffled hr (T.glo "_law_shuffled" (by decide +kernel)) (pa_cons (pv 0) (pa_cons (pe_callTy (call_listD rfl) (by rfl) (T.free "list" (by decide +kernel)) (by decide +kernel) (pa_cons (pv 3) pa_nil)) pa_nil)))) (blkOk_by (own := [("_law_goal", 6)]) (N := ["_law_source_here", "_law_turn", "_law_world_here", "_law_table", "_law_rows_here", "_law_others", "_law_goal"]) (sc := defScope s__law_cell_holds) (by decide +kernel)) (fun _ _ _ _ _ => (pg_name (i := 6) sc__law_cell_holds.nd rfl (by first | exact Or.inl rfl | exact Or.inr rfl))) (fun _ _ _ _ _ => pts_nil) (fun _ _ _ _ _ => (pe_tup (pa_cons (pv 6) (pa_cons (pe_dget (hu_of hr) (pv 3) (pv 6) (fun _ _ => rfl)) pa_nil))))) pa_nil)))
    (pss_one (ps_if (PW.pt (pw_or (pt_not (pt_val (pcallG G__law_text_right hr hgd (T.glo "_law_text_right" (by decide +kernel)) (pa_cons (pv 3) (pa_cons (pv 4) pa_nil))))) (pw_or1 (pt_not (pt_val (pcallG G__law_text_right hr hgd (T.glo "_law_text_right" (by decide +kernel)) (pa_cons (pv 5) (pa_cons (pe_revL (pv 4)) pa_nil)))))))) (pss_one (ps_ret pe_bl)) pss_nil))))))
    (pss_one (ps_ret pe_bl)), ?_⟩
  have zl := line_big
  walk_at "st"
  refine ⟨by decide, by decide, ?_⟩
  refine forGo walk_range (fun i σ H' => ∃ x1 x2 x3 x4 x5 x6, σ = [some (V.ref s), x1, x2, x3, x4, x5, x6] ∧ SX s H H' ∧ SrcAt H' s)
    ⟨_, _, _, _, _, _, rfl, .of (.refl H), hs⟩ (fun _ _ _ _ _ => trivial) ?_ ?_
  · rintro i y σ H1 H1' hi ⟨x1, x2, x3, x4, x5, x6, rfl, X1, hs1⟩ ⟨eH, ey⟩
    subst eH
    subst ey
    walk_at "wp"
    refine sq ?_
    walk_at "wp"
    refine ⟨s, 14, rfl, hs1, fun H2 wa W X2 hs2 nwa hw ok => ?_⟩
    refine sq ?_
    walk_at "wp"
    refine ⟨s, wa, W, 14, rfl, hs2, hw, ok, fun H3 fa fs l X3 hs3 hw3 nfa hT D => ⟨s, wa, W, l, rfl, hs3, hw3, ok, fun H4 la bs X4 hs4 nla hR hb hn => ⟨by decide, fun t nt => ?_⟩⟩⟩
    have lp := law_drawn ok D hb hn
    have hT4 := hT.sx hs3 X4
    have st := same_new nt (.tup [V.ref fa, V.ref la])
    have et := upd_same (H := H4) (a := t) (o := .tup [V.ref fa, V.ref la])
    have hs5 := hs4.same st
    have hT5 := hT4.same st
    have hR5 := hR.same st
    have X13 : SX s H H3 := ⟨fun b u h1 e => X3.x b u h1 (ne_new (X1.x b u h1 e) nwa) (X2.x b u h1 (X1.x b u h1 e)), (X1.t.trans X2.t).trans X3.t⟩
    have X15 := (X13.trans X4).trans (.of st)
    generalize upd H4 t (.tup [V.ref fa, V.ref la]) = H5 at st et hs5 hT5 hR5 X15 ⊢
    refine ⟨_, .inl (.inl et), rfl, ?_⟩
    walk_at "wp"
    obtain ⟨tv, eT, hTd⟩ := id hT5
    have ltv := dta_len hTd
    rw [List.length_map] at ltv
    have nd := lp.fns.2.2.2.1
    have nls := hs3.new nla
    refine sq ?_
    walk_at "wp"
    refine ⟨_, .inl eT, fun c nc => ?_⟩
    rw [kvz_keys (by rw [List.length_map]; exact ltv)]
    have s6 := same_new nc (.lst ((fs.map Fn91.name).map V.str))
    have e6 := upd_same (H := H5) (a := c) (o := .lst ((fs.map Fn91.name).map V.str))
    have hs6 := hs5.same s6
    have hT6 := hT5.same s6
    have hR6 := hR5.same s6
    have X16 := X15.trans (.of s6)
    generalize upd H5 c (.lst ((fs.map Fn91.name).map V.str)) = H6 at s6 e6 hs6 hT6 hR6 X16 ⊢
    refine ⟨s, c, fs.map Fn91.name, rfl, hs6, e6, by have := lp.fns.2.1; rw [List.length_map]; omega, fun H7 r ys X7 hs7 nr er pm => ⟨r, rfl, ⟨_, .of er⟩, ?_⟩⟩
    obtain ⟨gs, pg, eg⟩ := perm_lift Fn91.name pm fs rfl
    subst eg
    have hT7 := hT6.sx hs6 X7
    have hR7 : RowsAt K H7 la bs := by
      obtain ⟨rv, e, g⟩ := hR6
      exact ⟨rv, X7.x _ _ nls e, g.keep X7.t⟩
    have X17 := X16.trans X7
    obtain ⟨tv, eT, hTd⟩ := id hT7
    have ndg : (gs.map Fn91.name).Nodup := (pg.map Fn91.name).nodup_iff.mpr nd
    refine lcGoX (walk_list (xs := (gs.map Fn91.name).map V.str)) (fun D i acc H' => OthI K H7 s gs i acc H') (fun D nD => ⟨[], [], rfl, .nil, .nil, same_new nD _⟩) (fun D i acc H' ⟨_, _, _, _, _, sm⟩ => .of (sm _ _ er)) ?_ ?_
    · rintro D i y acc H8 H9 nD hi eD la' ⟨ps, us, rfl, pr, hu, sm⟩ ⟨eH, ey⟩
      subst eH
      obtain ⟨g, eg, rfl⟩ := strs_get ey
      rw [List.getElem?_map] at eg
      obtain ⟨f, ef, rfl⟩ := Option.map_eq_some_iff.mp eg
      have fm : f ∈ fs := pg.mem_iff.mp (List.mem_of_getElem? ef)
      obtain ⟨j, hj, ej⟩ := List.mem_iff_getElem.mp fm
      have ej' : fs[j]? = some f := by rw [List.getElem?_eq_getElem hj, ej]
      obtain ⟨v, ev, gv⟩ := dta_get hTd (i := j) (d := f.data) (by rw [List.getElem?_map, ej']; rfl)
      have hval : valV (kvz (fs.map Fn91.name) tv) (.inr f.name) = some v := kvz_val nd (by rw [List.getElem?_map, ej']; rfl) ev
      have dg : DGet H9 fa (.str f.name) (some v) := by rw [← hval]; exact .k (k := .inr f.name) (sm _ _ eT)
      have lus := dta_len hu
      rw [List.length_map] at lus
      have g12 : gs.length ≤ 12 := by rw [pg.length_eq]; exact lp.fns.2.1
      walk_at "wp"
      refine ⟨v, dg, by decide, fun t9 nt9 => ?_⟩
      have s9 := same_new nt9 (.tup [V.str f.name, v])
      have eD9 := s9 _ _ eD
      have t10 := tups_lst eD9 (.lst (ps.map V.ref ++ [V.ref t9]))
      have tk := (tups_of s9).trans t10
      have l1 : (ps.map V.ref).length ≤ 12 := by rw [List.length_map, List.length_map] at hi; omega
      refine ⟨ps.map V.ref, eD9, by omega, .mk la' ⟨ps ++ [t9], us ++ [v], by simp, ?_, ?_, same_at nD (sm.trans s9) _⟩⟩
      · rw [List.take_add_one, ef, List.map_append, kvz_app (by rw [List.length_map]; exact lus)]
        exact paired_app (F := fun (p : Addr) (kv : Key × V) => SqT K _ p [kV kv.1, kv.2]) (t10.sqT (.inl (.inl upd_same))) (Paired.mapP pr fun a b h => tk.sqT h)
      · rw [List.take_add_one, ef, List.map_append]
        exact dta_app (hu.keep tk) (.cons (gv.keep ((tups_of sm).trans tk)) .nil)
    rintro D acc H8 nD eD la' ⟨ps, us, rfl, pr, hu, sm⟩
    rw [List.length_map, List.length_map, List.take_of_length_le (Nat.le_refl _)] at pr hu
    have lus := dta_len hu
    rw [List.length_map] at lus
    have em : mergeK [] (kvz (gs.map Fn91.name) us) = kvz (gs.map Fn91.name) us := merge_kvz [] [] (by rw [List.length_map]; exact lus) rfl ndg
    refine ⟨D, rfl, ps, .of eD, _, pr, fun o no => ?_⟩
    rw [em]
    have s8 := same_new no (.dK (kvz (gs.map Fn91.name) us))
    have hTg : TabAt K (upd H8 o (.dK (kvz (gs.map Fn91.name) us))) o gs := ⟨us, upd_same, hu.keep (tups_of s8)⟩
    have s78 := sm.trans s8
    generalize upd H8 o (.dK (kvz (gs.map Fn91.name) us)) = H9 at s8 s78 hTg ⊢
    refine ⟨fa, la, fs, bs, rfl, hT7.same s78, hR7.same s78, lp, fun H10 s10 => ⟨true, rfl, iteFb rfl ?_⟩⟩
    obtain ⟨rv, eR, hRd⟩ := (hR7.same s78).same s10
    refine ⟨V.ref la, rfl, la, rv, rfl, .of eR, fun rr nrr => ?_⟩
    have s11 := same_new nrr (.lst rv.reverse)
    refine ⟨o, rr, gs, bs.reverse, rfl, (hTg.same s10).same s11, ⟨rv.reverse, upd_same, by rw [List.map_reverse]; exact dta_rev (hRd.keep (tups_of s11))⟩, lp.perm pg, fun H12 s12 => ⟨true, rfl, iteFb rfl ⟨X17.trans (.of (s78.trans (s10.trans (s11.trans s12)))), hs7.same (s78.trans (s10.trans (s11.trans s12)))⟩⟩⟩
  · rintro σ H1 ⟨x1, x2, x3, x4, x5, x6, rfl, X1, hs1⟩
    walk_at "wp"
    exact q H1 X1 hs1
end
end K91
set_option Elab.async false
set_option linter.all false
set_option maxRecDepth 100000
set_option maxHeartbeats 8000000
namespace K91
open PySem PySem.Spec PyProof.Rows L2 _root_.SX
local macro_rules | `(tactic| walk_at "wp") => `(tactic| try simp only [cxK, cxw, cxK', cxw', start1, start2, start3, start4, start5, tRet, tRetN, tAsg, gName, gTup, gCons, gNil, gSub, tDrop, tNext, tIfS, tIf, tVar, tC, tAndV, tOrV, tNotV, tAnd, tOr, tNot, tTest, tB, tCB, tCons, tNil, tOp, tUn, rI0, rI, rU, rEq, rNe, rIn, tChain, tFld, sFld, tSl, tPart, tNoPart, tTup, tLst, tCallR, tMethR, tMethO, tBM, tBM0, tM0, tM1, tDGet, tDIn, tDNotIn, tDNewK, tCmp, t2I, tIsN, tNotN, tYes, tLc_eq, tFor_eq, tLenSetN, iItems, iVals, iKeys, iRng1, tLock, tLockE, tCallKw, tMakeKw, tMethKw, StX.tMakeR, tDc_eq, tLc2_eq, sFldAug, rMulS, tListVals, LiI.tListItems, LiI.rItemsL, RZ.iZipA, iStr, iTup, iList, iEnum, iEnumT, tDGet1, tDGet2, tDisp, tPairs, wipe, List.map_cons, List.map_nil,
  List.length_cons, List.length_nil, Nat.reduceAdd, Nat.reduceSub, List.replicate_succ, List.replicate_zero, if_true, if_false, Bool.not_true, Bool.not_false, Bool.false_eq_true, reduceIte,
  List.set_cons_zero, List.set_cons_succ, List.getElem?_cons_zero, List.getElem?_cons_succ, Option.some.injEq, exists_eq_left', exists_eq_left, V.int.injEq, V.str.injEq, V.bl.injEq, V.ref.injEq, V.ty.injEq, List.cons.injEq, and_true, true_and, and_assoc, exists_and_left, List.nil_append, List.cons_append, List.append_nil])
local macro_rules | `(tactic| walk_at "st") => `(tactic| (refine sq ?_; walk_at "wp"))
section
variable {P : Program} {w : World} {K : PySem.W.Frag} {mg : Str → Option Value} {base : Heap}
def SetI (K : PySem.W.Frag) (H0 : Hp) (s : Addr) (i : Nat) (acc : List V) (H' : Hp) : Prop := ∃ xs : List (Str × Int), DtAll K H' acc (xs.map setD) ∧ xs.length = i ∧ (∀ q ∈ xs, nameB q.1 = true ∧ -500 ≤ q.2 ∧ q.2 ≤ 500) ∧ SX s H0 H' ∧ SrcAt H' s
def LongI (K : PySem.W.Frag) (H0 : Hp) (s p w r : Addr) (ws ys : List Str) (i : Nat) (H' : Hp) : Prop := ∃ (fs : List Fn91) (us : List V), H' p = some (.dK (kvz (fs.map Fn91.name) us)) ∧ DtAll K H' us (fs.map Fn91.data) ∧ fs.map Fn91.name = ys.take i ∧ (∀ f ∈ fs, f.heads = [] ∧ ∃ xs, longX xs ∧ f.body = longD xs) ∧
  SX s H0 H' ∧ SrcAt H' s ∧ H' w = some (.lst (ws.map V.str)) ∧ H' r = some (.lst (ys.map V.str))
def LRowI (K : PySem.W.Frag) (H0 : Hp) (s : Addr) (cs : List Str) (i : Nat) (acc : List V) (H' : Hp) : Prop := ∃ bs : List Box91, DtAll K H' acc (bs.map Box91.data) ∧ bs.map Box91.name = cs.take i ∧ (∀ b ∈ bs, b.rule = "least" ∧ 0 ≤ b.val ∧ b.val ≤ 9) ∧ SX s H0 H' ∧ SrcAt H' s
theorem ok__law_long_right (T : Top K mg w) (G__law_text_right : FnG P w K mg base 65 (He.ga K "_law_text_right") (spRight K)) : FnG P w K mg base 70 (He.ga K "_law_long_right") (spCell K) := by
  obtain ⟨fd, F⟩ := T.def_ d__law_long_right (List.mem_of_getElem? (i := 73) rfl)
  refine mkG F sc__law_long_right (fun _ _ _ _ _ _ us hl => match us, hl with | [_], _ => rfl) (fun vs H Q E h => ?_) (fun cdv A outer s H vs Q E hr hgd h => ?_)
  · obtain ⟨s, rfl, _⟩ := h; rfl
  obtain ⟨s, rfl, hs, q⟩ := h
  have G__law_draw := ok__law_draw (P := P) (w := w) (base := base) T
  have G__law_choose := ok_chooseN (P := P) (w := w) (base := base) T
  have G__law_new_words := ok__law_new_words (P := P) (w := w) (base := base) T
  have G__law_shuffled := ok__law_shuffled (P := P) (w := w) (base := base) T
  refine ⟨_, pss_cons (ps_asg (pe_tup (pa_cons (pcall G__law_new_words hr (T.glo "_law_new_words" (by decide +kernel)) (pa_cons (pv 0) (pa_cons pe_int (pa_cons (pe_lst (pa_cons pe_str pa_nil)) pa_nil)))) (pa_cons pe_dnewK pa_nil))) (pg_tup (n := 2) rfl (pgs_cons (pg_name (i := 1) sc__law_long_right.nd rfl (by first | exact Or.inl rfl | exact Or.inr rfl)) (pgs_cons (pg_name (i := 2) sc__law_long_right.nd rfl (by first | exact Or.inl rfl | exact Or.inr rfl)) pgs_nil))))
    (pss_cons (ps_for PassesOwn.never rfl (pi_list (pcall G__law_shuffled hr (T.glo "_law_shuffled" (by decide +kernel)) (pa_cons (pv 0) (pa_cons (pe_op op_cat (pe_lst (pa_cons pe_str pa_nil)) (pv 1)) pa_nil)))) (pg_name (i := 3) sc__law_long_right.nd rfl (by first | exact Or.inl rfl | exact Or.inr rfl))
    (pss_cons (ps_setLc (i := 4) (own := [("_law_turn", 6)]) (g := (gName 6)) (tt := tYes) rfl sc__law_long_right.nd rfl rfl (sw_true rfl rfl rfl (by decide +kernel)) (pi_range1 (by rfl) (T.free "range" (by decide +kernel)) (pa_cons pe_int pa_nil)) (blkOk_by (own := [("_law_turn", 6)]) (N := ["_law_source_here", "_law_words", "_law_table", "_law_goal", "_law_body_here", "_law_rows_here", "_law_turn", "_law_word"]) (sc := defScope s__law_long_right) (by decide +kernel)) (fun _ _ _ _ _ => (pg_name (i := 6) sc__law_long_right.nd rfl (by first | exact Or.inl rfl | exact Or.inr rfl))) (fun _ _ _ _ _ => pts_nil) (fun _ _ _ _ _ => (pe_tup (pa_cons pe_str (pa_cons (pcall G__law_choose hr (T.glo "_law_choose" (by decide +kernel)) (pa_cons (pv 0) (pa_cons (pv 1) pa_nil))) (pa_cons (pe_op op_sub (pcall G__law_draw hr (T.glo "_law_draw" (by decide +kernel)) (pa_cons (pv 0) (pa_cons pe_int pa_nil))) pe_int) pa_nil))))))
    (pss_one (ps_dput (hu_of hr) (pv 2) (pv 3) (pe_tup (pa_cons (pe_tup pa_nil) (pa_cons (pe_op (r := rCatA K) op_catA (pe_callTy call_tuple_of (by rfl) (T.free "tuple" (by decide +kernel)) (by decide +kernel) (pa_cons (pv 4) pa_nil)) (pe_tup (pa_cons (pe_tup (pa_cons pe_str (pa_cons pe_str (pa_cons pe_str (pa_cons (pe_tup pa_nil) pa_nil))))) (pa_cons (pe_tup (pa_cons pe_str (pa_cons (pe_tup (pa_cons (pe_tup (pa_cons pe_str (pa_cons pe_int pa_nil))) pa_nil)) pa_nil))) (pa_cons (pe_tup (pa_cons pe_str (pa_cons pe_str pa_nil))) pa_nil))))) pa_nil))) rfl))))
    (pss_cons (ps_setLc (i := 5) (own := [("_law_word", 7)]) (g := (gName 7)) (tt := tYes) rfl sc__law_long_right.nd rfl rfl (sw_true rfl rfl rfl (by decide +kernel)) (pi_list (pe_slice (r := rSlL K) sl_list (pv 1) po_none (po_some pe_int))) (blkOk_by (own := [("_law_word", 7)]) (N := ["_law_source_here", "_law_words", "_law_table", "_law_goal", "_law_body_here", "_law_rows_here", "_law_turn", "_law_word"]) (sc := defScope s__law_long_right) (by decide +kernel)) (fun _ _ _ _ _ => (pg_name (i := 7) sc__law_long_right.nd rfl (by first | exact Or.inl rfl | exact Or.inr rfl))) (fun _ _ _ _ _ => pts_nil) (fun _ _ _ _ _ => (pe_tup (pa_cons (pv 7) (pa_cons pe_str (pa_cons (pcall G__law_draw hr (T.glo "_law_draw" (by decide +kernel)) (pa_cons (pv 0) (pa_cons pe_int pa_nil))) pa_nil))))))
    (pss_one (ps_ret (pcallG G__law_text_right hr hgd (T.glo "_law_text_right" (by decide +kernel)) (pa_cons (pv 2) (pa_cons (pv 5) pa_nil))))))), ?_⟩
  have zl := line_big
  refine sq ?_
  walk_at "wp"
  refine ⟨by decide, fun u nu => ?_⟩
  have s1 := same_new nu (.lst [V.str ("main" : Str)])
  have e1 := upd_same (H := H) (a := u) (o := .lst [V.str ("main" : Str)])
  have hs1 := hs.same s1
  generalize upd H u (.lst [V.str ("main" : Str)]) = H1 at s1 e1 hs1 ⊢
  refine ⟨s, u, 11, ["main"], rfl, hs1, e1, by decide, by simp, fun H2 w ws X2 hs2 nw ew hl hnm hnd p np => ⟨by decide, fun t nt => ⟨_, .inl (.inl upd_same), rfl, _, _, rfl, _, _, rfl, rfl, ?_⟩⟩⟩
  have s3 := (same_new np (.dK [])).trans (same_new nt (.tup [V.ref w, V.ref p]))
  have npt : p ≠ t := by rintro rfl; rw [upd_same] at nt; cases nt
  have ep : (upd (upd H2 p (.dK [])) t (.tup [V.ref w, V.ref p])) p = some (.dK []) := by rw [upd_ne npt]; exact upd_same
  have hs3 := hs2.same s3
  have ew3 := s3 _ _ ew
  have nps := hs2.new np
  have npH : H p = none := none_back s1 (none_backX X2.x nps np)
  have X3 : SX s H _ := ((SX.of s1).trans X2).trans (.of s3)
  generalize upd (upd H2 p (.dK [])) t (.tup [V.ref w, V.ref p]) = H3 at s3 ep hs3 ew3 X3 ⊢
  refine sq ?_
  walk_at "wp"
  refine ⟨by decide, fun m nm => ⟨m, w, _, _, rfl, rfl, upd_same, (same_new nm _) _ _ ew3, by simp; omega, fun c nc => ?_⟩⟩
  have s4 := (same_new nm (.lst [V.str ("main" : Str)])).trans (same_new nc (.lst ([V.str ("main" : Str)] ++ ws.map V.str)))
  have e4 := upd_same (H := upd H3 m (.lst [V.str ("main" : Str)])) (a := c) (o := .lst ([V.str ("main" : Str)] ++ ws.map V.str))
  have hs4 := hs3.same s4
  have ep4 := s4 _ _ ep
  have ew4 := s4 _ _ ew3
  have X4 := X3.trans (.of s4)
  generalize upd (upd H3 m (.lst [V.str ("main" : Str)])) c (.lst ([V.str ("main" : Str)] ++ ws.map V.str)) = H4 at s4 e4 hs4 ep4 ew4 X4 ⊢
  refine ⟨s, c, "main" :: ws, rfl, hs4, e4, by simp; omega, fun H5 r ys X5 hs5 nr er pm => ⟨r, rfl, ⟨_, .of er⟩, ?_⟩⟩
  have ep5 := X5.x _ _ nps ep4
  have nws : w ≠ s := strs_ne_src ew4 hs4
  have nrs : r ≠ s := hs4.new nr
  have ew5 := X5.x _ _ nws ew4
  have nrp : p ≠ r := ne_new ep4 nr
  have nwp : p ≠ w := by rintro rfl; rw [ep4] at ew4; cases ew4
  have yl : ys.length = 12 := by rw [pm.length_eq, List.length_cons, hl]
  refine forGo (walk_list (xs := ys.map V.str)) (fun i σ H' => ∃ x3 x4 x6 x7, σ = [some (V.ref s), some (V.ref w), some (V.ref p), x3, x4, none, x6, x7] ∧ LongI K H s p w r ws ys i H')
    ⟨_, _, _, _, rfl, [], [], ep5, .nil, rfl, (fun f hf => by cases hf), X4.trans X5, hs5, ew5, er⟩ (fun _ _ _ _ ⟨_, _, _, _, _, _, _, _, _, _, _, _, _, _, e⟩ => .of e) ?_ ?_
  · rintro i y σ H6 H7 hi ⟨x3, x4, x6, x7, rfl, fs, us, epf, hu, hnf, hbf, X6, hs6, ew6, er6⟩ ⟨eH, ey⟩
    subst eH
    obtain ⟨g, eg, rfl⟩ := strs_get ey
    walk_at "wp"
    refine sq ?_
    walk_at "wp"
    refine ⟨by decide, by decide, ?_⟩
    refine lcGoX walk_range (fun D i acc H' => SetI K H7 s i acc H') (fun D nD => ⟨[], .nil, rfl, (fun q hq => by cases hq), .of (same_new nD _), hs6.same (same_new nD _)⟩) (fun _ _ _ _ _ => trivial) ?_ ?_
    · rintro D j z acc H8 H9 nD hj eD la' ⟨xs, hx, lx, hxs, X8, hs8⟩ ⟨eH, ez⟩
      subst eH
      subst ez
      walk_at "wp"
      have nDs := hs6.new nD
      refine ⟨s, w, ws, rfl, hs8, X8.x _ _ nws ew6, by omega, by omega, fun H10 a X10 hs10 hxa => ⟨s, 1000, rfl, hs10, by decide, Nat.lt_of_le_of_lt (Nat.log2_le_self _) (by decide), fun H11 d X11 hs11 hd => ⟨_, rfl, by decide, fun t9 nt9 => ?_⟩⟩⟩
      have s12 := same_new nt9 (.tup [V.str ("set" : Str), V.str a, V.int ((d : Int) - 500)])
      have eD12 := s12 _ _ (X11.x _ _ nDs (X10.x _ _ nDs eD))
      have t13 := tups_lst eD12 (.lst (acc ++ [V.ref t9]))
      have tk := ((X10.t.trans X11.t).trans (tups_of s12)).trans t13
      refine ⟨acc, eD12, by omega, .mk la' ⟨xs ++ [(a, (d : Int) - 500)], ?_, by simp [lx], fun q hq => ?_, ((X8.trans (X10.trans X11)).trans (.of s12)).at nD _, (hs11.same s12).upd nDs⟩⟩
      · rw [List.map_append]
        exact dta_app (hx.keep tk) (.cons (.tup (t13.sqT (.inl (.inl upd_same))) (.cons (.str _ (by decide)) (.cons (dtN (hnm a hxa)) (.cons (.int _) .nil)))) .nil)
      · rcases List.mem_append.mp hq with h | h
        · exact hxs q h
        · rw [List.mem_singleton.mp h]
          exact ⟨hnm a hxa, by show -500 ≤ (d : Int) - 500; omega, by show (d : Int) - 500 ≤ 500; omega⟩
    rintro D acc H8 nD eD la' ⟨xs, hx, lx, hxs, X8, hs8⟩
    have nDs := hs6.new nD
    simp only [sDPut]
    walk_at "wp"
    have ep8 := X8.x _ _ nps epf
    have nDp : D ≠ p := by rintro rfl; rw [epf] at nD; cases nD
    refine ⟨by decide, fun a1 na1 => ?_⟩
    have sa1 := same_new na1 (.tup [])
    have ea1 := upd_same (H := H8) (a := a1) (o := .tup [])
    generalize upd H8 a1 (.tup []) = G1 at sa1 ea1 ⊢
    refine ⟨acc, .inl ⟨.of (sa1 _ _ eD), fun l nl => ?_⟩⟩
    have sl := same_new nl (.tup acc)
    have el := upd_same (H := G1) (a := l) (o := .tup acc)
    generalize upd G1 l (.tup acc) = G2 at sl el ⊢
    refine ⟨by decide, fun a2 na2 => ?_⟩
    have sa2 := same_new na2 (.tup [])
    have ea2 := upd_same (H := G2) (a := a2) (o := .tup [])
    generalize upd G2 a2 (.tup []) = G3 at sa2 ea2 ⊢
    refine ⟨by decide, fun a3 na3 => ?_⟩
    have sa3 := same_new na3 (.tup [V.str "call", V.str "x", V.str "main", V.ref a2])
    have ea3 := upd_same (H := G3) (a := a3) (o := .tup [V.str "call", V.str "x", V.str "main", V.ref a2])
    generalize upd G3 a3 (.tup [V.str "call", V.str "x", V.str "main", V.ref a2]) = G4 at sa3 ea3 ⊢
    refine ⟨by decide, fun a4 na4 => ?_⟩
    have sa4 := same_new na4 (.tup [V.str "break", V.int 1])
    have ea4 := upd_same (H := G4) (a := a4) (o := .tup [V.str "break", V.int 1])
    generalize upd G4 a4 (.tup [V.str "break", V.int 1]) = G5 at sa4 ea4 ⊢
    refine ⟨by decide, fun a5 na5 => ?_⟩
    have sa5 := same_new na5 (.tup [V.ref a4])
    have ea5 := upd_same (H := G5) (a := a5) (o := .tup [V.ref a4])
    generalize upd G5 a5 (.tup [V.ref a4]) = G6 at sa5 ea5 ⊢
    refine ⟨by decide, fun a6 na6 => ?_⟩
    have sa6 := same_new na6 (.tup [V.str "loop", V.ref a5])
    have ea6 := upd_same (H := G6) (a := a6) (o := .tup [V.str "loop", V.ref a5])
    generalize upd G6 a6 (.tup [V.str "loop", V.ref a5]) = G7 at sa6 ea6 ⊢
    refine ⟨by decide, fun a7 na7 => ?_⟩
    have sa7 := same_new na7 (.tup [V.str "return", V.str "x"])
    have ea7 := upd_same (H := G7) (a := a7) (o := .tup [V.str "return", V.str "x"])
    generalize upd G7 a7 (.tup [V.str "return", V.str "x"]) = G8 at sa7 ea7 ⊢
    refine ⟨by decide, fun a8 na8 => ?_⟩
    have sa8 := same_new na8 (.tup [V.ref a3, V.ref a6, V.ref a7])
    have ea8 := upd_same (H := G8) (a := a8) (o := .tup [V.ref a3, V.ref a6, V.ref a7])
    generalize upd G8 a8 (.tup [V.ref a3, V.ref a6, V.ref a7]) = G9 at sa8 ea8 ⊢
    have q8 := sa8
    have q7 := sa7.trans q8
    have q6 := sa6.trans q7
    have q5 := sa5.trans q6
    have q4 := sa4.trans q5
    have q3 := sa3.trans q4
    have q2 := sa2.trans q3
    have q1 := sl.trans q2
    have q0 := sa1.trans q1
    have lacc : acc.length = 17 := by have := dta_len hx; rw [List.length_map] at this; rw [this, lx]; rfl
    refine cat_ask (xs := acc) (ys := [V.ref a3, V.ref a6, V.ref a7]) (.inl (.inl (q2 _ _ el))) (.inl (.inl ea8)) (by rw [lacc]; show 17 + 3 ≤ _; omega) fun r1 G10 s10 er1 => ?_
    refine ⟨by decide, fun p9 n9 => ?_⟩
    have s11 := same_new n9 (.tup [V.ref a1, V.ref r1])
    have e11 := upd_same (H := G10) (a := p9) (o := .tup [V.ref a1, V.ref r1])
    generalize upd G10 p9 (.tup [V.ref a1, V.ref r1]) = G11 at s11 e11 ⊢
    have z := s10.trans s11
    have z0 := q0.trans z
    have ep11 := z0 _ _ ep8
    have lu := dta_len hu
    rw [List.length_map] at lu
    have lf : fs.length = i := by
      have := congrArg List.length hnf
      rw [List.length_map, List.length_take] at this
      rw [List.length_map] at hi
      omega
    have hnot : g ∉ fs.map Fn91.name := fun zz => by
      rw [hnf] at zz
      have := nodup_take (pm.nodup_iff.mpr hnd) (i := i) (x := g) eg
      rw [List.contains_iff_mem.mpr zz] at this
      cases this
    have tz := tups_lock ep11 (.dK (putK (kvz (fs.map Fn91.name) us) (.inr g) (.ref p9)))
    have sy (n : Nat) : ∀ {H' : Hp} {x : Str}, x.length ≤ 8 → Dt K H' (.str x) (.str x) := fun h => .str _ (by omega)
    have w8 : ∀ x ∈ (["call", "x", "main", "break", "loop", "return"] : List Str), x.length ≤ 8 := by decide +kernel
    have sw : ∀ {H' : Hp} (x : Str), x ∈ (["call", "x", "main", "break", "loop", "return"] : List Str) → Dt K H' (.str x) (.str x) := fun x h => .str _ (by have := w8 x h; omega)
    refine ⟨_, .k (k := .inr g) ep11 (by rw [kvz_len (by rw [List.length_map]; exact lu), List.length_map]; rw [List.length_map] at hi; omega), fs ++ [⟨g, [], longD xs⟩], us ++ [.ref p9], ?_, ?_, ?_, ?_, ?_, ?_, ?_, ?_⟩
    · rw [upd_same, put_new hnot, List.map_append, kvz_app (by rw [List.length_map]; exact lu)]
      rfl
    · rw [List.map_append]
      have T11 : ∀ {b : Addr} {ys : List V}, G11 b = some (.tup ys) → SqT K (upd G11 p (.dK (putK (kvz (fs.map Fn91.name) us) (.inr g) (.ref p9)))) b ys := fun e => tz.sqT (.inl (.inl e))
      refine dta_app (hu.keep (X8.t.trans ((tups_of z0).trans tz))) (.cons (.tup (T11 e11) (.cons (.tup (T11 (z _ _ (q1 _ _ ea1))) .nil) (.cons (.tup (tz.sqT ((tups_of s11).sqT er1)) (dta_app (hx.keep ((tups_of z0).trans tz)) (.cons (.tup (T11 (z _ _ (q4 _ _ ea3))) (.cons (sw _ (by simp)) (.cons (sw _ (by simp)) (.cons (sw _ (by simp)) (.cons (.tup (T11 (z _ _ (q3 _ _ ea2))) .nil) .nil))))) (.cons (.tup (T11 (z _ _ (q7 _ _ ea6))) (.cons (sw _ (by simp)) (.cons (.tup (T11 (z _ _ (q6 _ _ ea5))) (.cons (.tup (T11 (z _ _ (q5 _ _ ea4))) (.cons (sw _ (by simp)) (.cons (.int 1) .nil))) .nil)) .nil))) (.cons (.tup (T11 (z _ _ (q8 _ _ ea7))) (.cons (sw _ (by simp)) (.cons (sw _ (by simp)) .nil))) .nil))))) .nil))) .nil)
    · rw [List.map_append, hnf, List.take_add_one, eg]
      rfl
    · intro f hf
      rcases List.mem_append.mp hf with h | h
      · exact hbf f h
      · rw [List.mem_singleton.mp h]
        exact ⟨rfl, xs, ⟨lx, hxs⟩, rfl⟩
    · exact ⟨fun b u h1 e => by rw [upd_ne (ne_new e npH)]; exact z0 _ _ (X8.x b u h1 (X6.x b u h1 e)), (X6.t.trans X8.t).trans ((tups_of z0).trans tz)⟩
    · exact (hs8.same z0).upd nps
    · rw [upd_ne (Ne.symm nwp)]; exact z0 _ _ (X8.x _ _ nws ew6)
    · rw [upd_ne (Ne.symm nrp)]; exact z0 _ _ (X8.x _ _ nrs er6)
  · rintro σ H6 ⟨x3, x4, x6, x7, rfl, fs, us, epf, hu, hnf, hbf, X6, hs6, ew6, er6⟩
    refine sq ?_
    walk_at "wp"
    refine sq ?_
    walk_at "wp"
    refine ⟨w, _, rfl, .of ew6, fun h2 nh2 => ?_⟩
    rw [show (8 : Int) = ((8 : Nat) : Int) from rfl, cut_take (by rw [List.length_map]; omega), ← List.map_take]
    have s7 := same_new nh2 (.lst ((ws.take 8).map V.str))
    have e7 := upd_same (H := H6) (a := h2) (o := .lst ((ws.take 8).map V.str))
    have hs7 := hs6.same s7
    have ep7 := s7 _ _ epf
    have hu7 := hu.keep (tups_of s7)
    have X7 := X6.trans (.of s7)
    generalize upd H6 h2 (.lst ((ws.take 8).map V.str)) = H7 at s7 e7 hs7 ep7 hu7 X7 ⊢
    refine ⟨h2, rfl, ⟨_, .of e7⟩, ?_⟩
    have nh2s : h2 ≠ s := strs_ne_src e7 hs7
    refine lcGoX (walk_list (xs := (ws.take 8).map V.str)) (fun D i acc H' => LRowI K H7 s (ws.take 8) i acc H') (fun D nD => ⟨[], .nil, rfl, (fun b hb => by cases hb), .of (same_new nD _), hs7.same (same_new nD _)⟩) (fun D i acc H' ⟨_, _, _, _, X, _⟩ => .of (X.x _ _ nh2s e7)) ?_ ?_
    · rintro D j z acc H8 H9 nD hj eD la' ⟨bs, hb, hn, ho, X8, hs8⟩ ⟨eH, ez⟩
      subst eH
      obtain ⟨g, eg, rfl⟩ := strs_get ez
      rw [List.length_map, List.length_take, hl] at hj
      have nDs := hs7.new nD
      have ng := hnm g (List.mem_of_mem_take (List.mem_of_getElem? eg))
      have hg := name_len ng
      walk_at "wp"
      refine ⟨s, 9, rfl, hs8, by decide, Nat.lt_of_le_of_lt (Nat.log2_le_self _) (by decide), fun H10 d X10 hs10 hd => ⟨by decide, fun t9 nt9 => ?_⟩⟩
      have s12 := same_new nt9 (.tup [V.str g, V.str ("least" : Str), V.int (d : Nat)])
      have eD12 := s12 _ _ (X10.x _ _ nDs eD)
      have t13 := tups_lst eD12 (.lst (acc ++ [V.ref t9]))
      have tk := (X10.t.trans (tups_of s12)).trans t13
      refine ⟨acc, eD12, by omega, .mk la' ⟨bs ++ [⟨g, "least", (d : Int)⟩], ?_, ?_, fun b hb' => ?_, ((X8.trans X10).trans (.of s12)).at nD _, (hs10.same s12).upd nDs⟩⟩
      · rw [List.map_append]
        exact dta_app (hb.keep tk) (.cons (.tup (t13.sqT (.inl (.inl upd_same))) (.cons (.str _ (by omega)) (.cons (.str _ (by decide)) (.cons (.int _) .nil)))) .nil)
      · rw [List.map_append, hn]
        generalize List.take 8 ws = cs at eg ⊢
        rw [List.take_add_one, eg]
        rfl
      · rcases List.mem_append.mp hb' with h | h
        · exact ho b h
        · rw [List.mem_singleton.mp h]
          exact ⟨rfl, by show 0 ≤ (d : Int); omega, by show (d : Int) ≤ 9; omega⟩
    · rintro D acc H8 nD eD la' ⟨bs, hb, hn, ho, X8, hs8⟩
      rw [List.length_map, List.take_of_length_le (Nat.le_refl _)] at hn
      rw [List.length_map, List.take_of_length_le (Nat.le_refl _)] at hnf
      have lp : LawP fs bs := LongP.law (ws := ws) ⟨hl, hnm, hnd, by rw [hnf]; exact pm, hbf, hn, ho⟩
      exact ⟨p, D, fs, bs, rfl, ⟨us, X8.x _ _ nps ep7, hu7.keep X8.t⟩, ⟨acc, eD, hb⟩, lp, fun H9 s9 => q H9 ((X7.trans X8).trans (.of s9)) (hs8.same s9)⟩
end
end K91
set_option Elab.async false
set_option linter.all false
set_option maxRecDepth 100000
set_option maxHeartbeats 8000000
namespace K91
open PySem PySem.Spec PyProof.Rows L2 _root_.SX
local macro_rules | `(tactic| walk_at "wp") => `(tactic| try simp only [cxK, cxw, cxK', cxw', start1, start2, start3, start4, start5, tRet, tRetN, tAsg, gName, gTup, gCons, gNil, gSub, tDrop, tNext, tIfS, tIf, tVar, tC, tAndV, tOrV, tNotV, tAnd, tOr, tNot, tTest, tB, tCB, tCons, tNil, tOp, tUn, rI0, rI, rU, rEq, rNe, rIn, tChain, tFld, sFld, tSl, tPart, tNoPart, tTup, tLst, tCallR, tMethR, tMethO, tBM, tBM0, tM0, tM1, tDGet, tDIn, tDNotIn, tDNewK, tCmp, t2I, tIsN, tNotN, tYes, tLc_eq, tFor_eq, tLenSetN, iItems, iVals, iKeys, iRng1, tLock, tLockE, tCallKw, tMakeKw, tMethKw, StX.tMakeR, tDc_eq, tLc2_eq, sFldAug, rMulS, tListVals, LiI.tListItems, LiI.rItemsL, RZ.iZipA, iStr, iTup, iList, iEnum, iEnumT, tDGet1, tDGet2, tDisp, tPairs, wipe, List.map_cons, List.map_nil,
  List.length_cons, List.length_nil, Nat.reduceAdd, Nat.reduceSub, List.replicate_succ, List.replicate_zero, if_true, if_false, Bool.not_true, Bool.not_false, Bool.false_eq_true, reduceIte,
  List.set_cons_zero, List.set_cons_succ, List.getElem?_cons_zero, List.getElem?_cons_succ, Option.some.injEq, exists_eq_left', exists_eq_left, V.int.injEq, V.str.injEq, V.bl.injEq, V.ref.injEq, V.ty.injEq, List.cons.injEq, and_true, true_and, and_assoc, exists_and_left, List.nil_append, List.cons_append, List.append_nil])
local macro_rules | `(tactic| walk_at "st") => `(tactic| (refine sq ?_; walk_at "wp"))
section
variable {P : Program} {w : World} {K : PySem.W.Frag} {mg : Str → Option Value} {base : Heap}
/-- a source of draws -/
def spSource (K : PySem.W.Frag) : Sp := fun vs H Q _ => ∃ a, ∃ k : Nat, ∃ ns : List Int, vs = [.ref a, .int (k : Nat)] ∧ SqL K H a (ns.map V.int) ∧ ns.length ≤ 63 ∧ k ≤ 4 ∧ ∀ H' s, Same H H' → H s = none → SrcAt H' s → Q (.ref s) H'
theorem ok__law_source (T : Top K mg w)  : FnR P w K mg base CX0 2 (He.ga K "_law_source") (spSource K) := by
  obtain ⟨fd, F⟩ := T.def_ d__law_source (List.mem_of_getElem? (i := 52) rfl)
  refine mkR F sc__law_source (fun _ _ _ _ _ _ us hl => match us, hl with | [_, _], _ => rfl) (fun vs H Q E h => ?_) (fun cdv A outer s H vs Q E hr h => ?_)
  · obtain ⟨a, k, ns, rfl, _⟩ := h; rfl
  obtain ⟨a, k, ns, rfl, hs, hn, hk, q⟩ := h
  refine ⟨_, pss_cutK (ps_set (i := 2) sc__law_source.nd rfl (by first | exact Or.inl rfl | exact Or.inr rfl) (pe_ifExp (pt_cmpR (op_lt) (pv 1) (pe_callB (r := fun xs H Q => ∃ x n, xs = [x] ∧ LenV K x H n ∧ Q (.int n) H) call_len (by rfl) (T.free "len" (by decide +kernel)) (by decide +kernel) (pa_cons (pv 0) pa_nil)) (nomark _)) (pe_callB call_abs (by rfl) (T.free "abs" (by decide +kernel)) (by decide +kernel) (pa_cons (pe_ix (r := rIxL K) ix_list (pv 0) (pv 1) (fun _ _ => rfl)) pa_nil)) pe_int))
    (pss_one (ps_ret (pe_lst (pa_cons (pe_callB (call_max2 rfl) (by rfl) (T.free "max" (by decide +kernel)) (by decide +kernel) (pa_cons pe_int (pa_cons (pe_op op_sub (pv 2) (pe_op op_pow pe_int pe_int)) pa_nil))) (pa_cons (pe_op op_add (pe_op op_mod (pe_op op_pow (pe_op op_add (pe_op op_add (pe_op op_mod (pv 2) pe_int) (pe_op op_mulW pe_int (pv 1))) pe_int) pe_int) pe_int) pe_int) pa_nil))))), ?_⟩
  have zl := line_big
  refine cutI (fun σ' H' => ∃ c : Int, σ' = [some (V.ref a), some (V.int (k : Nat)), some (V.int c)] ∧ 0 ≤ c ∧ Same H H') ?_ ?_
  · walk_at "wp"
    refine ⟨ns.length, .inl ⟨_, hs, by rw [List.length_map]⟩, ite2 (fun c => ?_) (fun _ => ⟨by decide, .refl _⟩)⟩
    have hk' : k < ns.length := by have := of_decide_eq_true c; omega
    exact ixL_at k hs (v := V.int (ns[k]'hk')) (by rw [List.getElem?_map, List.getElem?_eq_getElem hk']; rfl) ⟨_, rfl, by split <;> omega, .refl _⟩
  rintro σ' H1 ⟨c, rfl, hc, s1⟩
  walk_at "wp"
  have m0 : 0 ≤ c % 2147483549 := Int.emod_nonneg _ (by decide)
  have m1 : c % 2147483549 < 2147483549 := Int.emod_lt_of_pos _ (by decide)
  have e2 : Int.toNat 2 = 2 := rfl
  have m2 : 0 ≤ (c % 2147483549 + 103 * (k : Int) + 7) ^ Int.toNat 2 % 2147483489 := Int.emod_nonneg _ (by decide)
  have m3 : (c % 2147483549 + 103 * (k : Int) + 7) ^ Int.toNat 2 % 2147483489 < 2147483489 := Int.emod_lt_of_pos _ (by decide)
  refine ⟨⟨by decide, by decide, by decide⟩, by decide, ?_, ⟨by decide, by decide, by omega⟩, by decide, by decide, fun p np => q _ p (s1.trans (same_new np _)) (none_back s1 np) ⟨_, _, upd_same, by split <;> omega, by omega, by omega⟩⟩
  have l1 : ((103 : Int)).natAbs.log2 ≤ 10 := by decide
  have l2 : ((k : Nat) : Int).natAbs.log2 ≤ 4 := by
    have e : ((k : Nat) : Int).natAbs = k := rfl
    rw [e]
    exact Nat.le_trans (Nat.log2_le_self k) hk
  show _ + _ < 1000000
  omega
end
end K91
set_option Elab.async false
set_option linter.all false
set_option maxRecDepth 100000
set_option maxHeartbeats 8000000
namespace K91
open PySem PySem.Spec PyProof.Rows L2 _root_.SX
local macro_rules | `(tactic| walk_at "wp") => `(tactic| try simp only [cxK, cxw, cxK', cxw', start1, start2, start3, start4, start5, tRet, tRetN, tAsg, gName, gTup, gCons, gNil, gSub, tDrop, tNext, tIfS, tIf, tVar, tC, tAndV, tOrV, tNotV, tAnd, tOr, tNot, tTest, tB, tCB, tCons, tNil, tOp, tUn, rI0, rI, rU, rEq, rNe, rIn, tChain, tFld, sFld, tSl, tPart, tNoPart, tTup, tLst, tCallR, tMethR, tMethO, tBM, tBM0, tM0, tM1, tDGet, tDIn, tDNotIn, tDNewK, tCmp, t2I, tIsN, tNotN, tYes, tLc_eq, tFor_eq, tLenSetN, iItems, iVals, iKeys, iRng1, tLock, tLockE, tCallKw, tMakeKw, tMethKw, StX.tMakeR, tDc_eq, tLc2_eq, sFldAug, rMulS, tListVals, LiI.tListItems, LiI.rItemsL, RZ.iZipA, iStr, iTup, iList, iEnum, iEnumT, tDGet1, tDGet2, tDisp, tPairs, wipe, List.map_cons, List.map_nil,
  List.length_cons, List.length_nil, Nat.reduceAdd, Nat.reduceSub, List.replicate_succ, List.replicate_zero, if_true, if_false, Bool.not_true, Bool.not_false, Bool.false_eq_true, reduceIte,
  List.set_cons_zero, List.set_cons_succ, List.getElem?_cons_zero, List.getElem?_cons_succ, Option.some.injEq, exists_eq_left', exists_eq_left, V.int.injEq, V.str.injEq, V.bl.injEq, V.ref.injEq, V.ty.injEq, List.cons.injEq, and_true, true_and, and_assoc, exists_and_left, List.nil_append, List.cons_append, List.append_nil])
local macro_rules | `(tactic| walk_at "st") => `(tactic| (refine sq ?_; walk_at "wp"))
section
variable {P : Program} {w : World} {K : PySem.W.Frag} {mg : Str → Option Value} {base : Heap}
def spLaw (K : PySem.W.Frag) : Sp := fun vs H Q _ => ∃ a, ∃ ns : List Int, vs = [.ref a] ∧ SqL K H a (ns.map V.int) ∧ ns.length ≤ 63 ∧ ∀ H', Q (.bl true) H'
theorem ok_law (T : Top K mg w) (G__law_cell_holds : FnG P w K mg base 70 (He.ga K "_law_cell_holds") (spCell K)) (G__law_long_right : FnG P w K mg base 70 (He.ga K "_law_long_right") (spCell K)) : FnG P w K mg base 75 (He.ga K "law") (spLaw K) := by
  obtain ⟨fd, F⟩ := T.def_ d_law (List.mem_of_getElem? (i := 75) rfl)
  refine mkG F sc_law (fun _ _ _ _ _ _ us hl => match us, hl with | [_], _ => rfl) (fun vs H Q E h => ?_) (fun cdv A outer s H vs Q E hr hgd h => ?_)
  · obtain ⟨a, ns, rfl, _⟩ := h; rfl
  obtain ⟨a, ns, rfl, hs, hn, q⟩ := h
  have G__law_source := ok__law_source (P := P) (w := w) (base := base) T
  refine ⟨_, pss_cons (ps_if (pt_not (pt_val (pe_callB (r := rAll K) (cr_all rfl) (by rfl) (T.free "all" (by decide +kernel)) (by decide +kernel) (pa_cons (pe_lc (own := [("_law_place", 1)]) (g := (gName 1)) (tt := tYes) rfl sc_law.nd (pi_range1 (by rfl) (T.free "range" (by decide +kernel)) (pa_cons (pe_callB (call_max2 rfl) (by rfl) (T.free "max" (by decide +kernel)) (by decide +kernel) (pa_cons pe_int (pa_cons (pe_callB (call_min2 rfl) (by rfl) (T.free "min" (by decide +kernel)) (by decide +kernel) (pa_cons pe_int (pa_cons (pe_callB (r := fun xs H Q => ∃ x n, xs = [x] ∧ LenV K x H n ∧ Q (.int n) H) call_len (by rfl) (T.free "len" (by decide +kernel)) (by decide +kernel) (pa_cons (pv 0) pa_nil)) pa_nil))) pa_nil))) pa_nil)) (blkOk_by (own := [("_law_place", 1)]) (N := ["_law_script", "_law_place"]) (sc := defScope s_law) (by decide +kernel)) (fun _ _ _ _ _ => (pg_name (i := 1) sc_law.nd rfl (by first | exact Or.inl rfl | exact Or.inr rfl))) (fun _ _ _ _ _ => pts_nil) (fun _ _ _ _ _ => (pcallG G__law_cell_holds hr hgd (T.glo "_law_cell_holds" (by decide +kernel)) (pa_cons (pcall G__law_source hr (T.glo "_law_source" (by decide +kernel)) (pa_cons (pv 0) (pa_cons (pv 1) pa_nil))) pa_nil)))) pa_nil)))) (pss_one (ps_ret pe_bl)) pss_nil)
    (pss_one (ps_ret (pcallG G__law_long_right hr hgd (T.glo "_law_long_right" (by decide +kernel)) (pa_cons (pcall G__law_source hr (T.glo "_law_source" (by decide +kernel)) (pa_cons (pv 0) (pa_cons pe_int pa_nil))) pa_nil)))), ?_⟩
  have zl := line_big
  have stp : ∀ (H1 H2 : Hp) (sx : Addr), H1 sx = none → SX sx H1 H2 → Same H1 H2 := fun H1 H2 sx n X b u e => X.x b u (ne_new e n) e
  refine sq ?_
  walk_at "wp"
  refine ⟨_, .inl ⟨_, hs, rfl⟩, ?_⟩
  rw [List.length_map]
  obtain ⟨m, em, hm⟩ : ∃ m : Nat, (if (if ((ns.length : Nat) : Int) < 4 then ((ns.length : Nat) : Int) else 4) > 1 then (if ((ns.length : Nat) : Int) < 4 then ((ns.length : Nat) : Int) else 4) else 1) = (m : Int) ∧ m ≤ 4 := by
    by_cases c : ((ns.length : Nat) : Int) < 4
    · rw [if_pos c]
      by_cases c2 : ((ns.length : Nat) : Int) > 1
      · rw [if_pos c2]; exact ⟨ns.length, rfl, by omega⟩
      · rw [if_neg c2]; exact ⟨1, rfl, by omega⟩
    · rw [if_neg c]; exact ⟨4, rfl, by omega⟩
  rw [em]
  refine ⟨by omega, by omega, ?_⟩
  rw [Int.toNat_natCast]
  have src : ∀ (H1 : Hp) (k : Nat) (R : VK), Same H H1 → k ≤ 4 → (∀ H2, Same H1 H2 → R (.bl true) H2) → spSource K [V.ref a, V.int (k : Nat)] H1 (fun x H2 => spCell K [x] H2 R E0) E0 := fun H1 k R s1 hk r =>
    ⟨a, k, ns, rfl, (SqL.ext hs s1), hn, hk, fun H2 sx s2 n2 h2 => ⟨sx, rfl, h2, fun H3 X3 _ => r H3 fun b u e => X3.x b u (ne_new e n2) (s2 _ _ e)⟩⟩
  refine lcGo walk_range (fun i acc _ => acc = List.replicate acc.length (V.bl true)) (fun _ _ => rfl) (fun _ _ => trivial) ?_ ?_
  · rintro D i x acc H2 H3 nD hi s2 eD la ra ⟨eH, ey⟩
    subst eH
    subst ey
    walk_at "wp"
    rw [Int.zero_add]
    refine src H3 i _ s2 (by omega) fun H4 s4 => ⟨acc, s4 _ _ eD, by omega, .step nD (s2.trans s4) la ?_⟩
    show acc ++ [V.bl true] = List.replicate (acc ++ [V.bl true]).length (V.bl true)
    rw [List.length_append, List.length_singleton, List.replicate_succ', ← ra]
  · rintro D acc H2 nD s2 eD la ra
    have ea : acc = (List.replicate acc.length true).map V.bl := by rw [List.map_replicate]; exact ra
    refine ⟨D, List.replicate acc.length true, rfl, .of (by rw [eD, ← ea]), _, rfl, ?_⟩
    have et : (List.replicate acc.length true).all id = true := by simp
    rw [et]
    exact iteFb rfl (src H2 4 _ s2 (by omega) fun H3 _ => q H3)
end
end K91
set_option Elab.async false
set_option linter.all false
set_option maxRecDepth 100000
set_option maxHeartbeats 8000000
namespace K91
open PySem PySem.Spec PyProof.Rows L2
local macro_rules | `(tactic| walk_at "wp") => `(tactic| try simp only [cxK, cxw, cxK', cxw', start1, start2, start3, start4, start5, tRet, tRetN, tAsg, gName, gTup, gCons, gNil, gSub, tDrop, tNext, tIfS, tIf, tVar, tC, tAndV, tOrV, tNotV, tAnd, tOr, tNot, tTest, tB, tCB, tCons, tNil, tOp, tUn, rI0, rI, rU, rEq, rNe, rIn, tChain, tFld, sFld, tSl, tPart, tNoPart, tTup, tLst, tCallR, tMethR, tMethO, tBM, tBM0, tM0, tM1, tDGet, tDIn, tDNotIn, tDNewK, tCmp, t2I, tIsN, tNotN, tYes, tLc_eq, tFor_eq, tLenSetN, iItems, iVals, iKeys, iRng1, tLock, tLockE, tCallKw, tMakeKw, tMethKw, StX.tMakeR, tDc_eq, tLc2_eq, sFldAug, rMulS, tListVals, LiI.tListItems, LiI.rItemsL, RZ.iZipA, iStr, iTup, iList, iEnum, iEnumT, tDGet1, tDGet2, tDisp, tPairs, wipe, List.map_cons, List.map_nil,
  List.length_cons, List.length_nil, Nat.reduceAdd, Nat.reduceSub, List.replicate_succ, List.replicate_zero, if_true, if_false, Bool.not_true, Bool.not_false, Bool.false_eq_true, reduceIte,
  List.set_cons_zero, List.set_cons_succ, List.getElem?_cons_zero, List.getElem?_cons_succ, Option.some.injEq, exists_eq_left', exists_eq_left, V.int.injEq, V.str.injEq, V.bl.injEq, V.ref.injEq, V.ty.injEq, List.cons.injEq, and_true, true_and, and_assoc, exists_and_left, List.nil_append, List.cons_append, List.append_nil])
local macro_rules | `(tactic| walk_at "st") => `(tactic| (refine sq ?_; walk_at "wp"))
section
variable {P : Program} {w : World} {K : PySem.W.Frag} {mg : Str → Option Value} {base : Heap}
theorem ProgN.lock {K : PySem.W.Frag} {H H1 : Hp} {p ta : Addr} {fs : List Fn91} {bs : List Box91} {kz : List (Key × V)} (n : ProgN K H H1 p fs bs) (e : H ta = some (.dK kz)) (e1 : H1 ta = some (.dK kz)) (o : HO) : ProgAt K (upd H1 ta o) p fs bs := by
  obtain ⟨dx, h, b, r, t, l, a1, a2, a3, hp, hv, bv, rv, us, f1, f2, f3, f4, f5, f6, f7, f8⟩ := n
  have tt := tups_lock e1 o
  have np : p ≠ ta := by rintro rfl; rw [hp] at e1; cases e1
  have nl : l ≠ ta := by rintro rfl; rw [f7] at e1; cases e1
  refine ⟨dx, h, b, r, t, l, by rw [upd_ne np]; exact hp, hv, bv, rv, us, ?_, f2.keep tt, ?_, f4.keep tt, ?_, f6.keep tt, by rw [upd_ne nl]; exact f7, f8⟩
  · rw [upd_ne (Ne.symm (ne_new e a1))]; exact f1
  · rw [upd_ne (Ne.symm (ne_new e a2))]; exact f3
  · rw [upd_ne (Ne.symm (ne_new e a3))]; exact f5
theorem dpa_strs {K : PySem.W.Frag} {H : Hp} : ∀ xs : List Str, DpAll K H (xs.map V.str) (xs.map .str)
  | [] => .nil
  | x :: r => .cons (.str x) (dpa_strs r)
theorem ok__law_text_right (T : Top K mg w) (TI : IsC K (He.ga K "Program")) : FnG P w K mg base 65 (He.ga K "_law_text_right") (spRight K) := by
  obtain ⟨fd, F⟩ := T.def_ d__law_text_right (List.mem_of_getElem? (i := 72) rfl)
  refine mkG F sc__law_text_right (fun _ _ _ _ _ _ us hl => match us, hl with | [_, _], _ => rfl) (fun vs H Q E h => ?_) (fun cdv A outer s H vs Q E hr hgd h => ?_)
  · obtain ⟨ta, la, fs, bs, rfl, _⟩ := h; rfl
  obtain ⟨ta, la, fs, bs, rfl, hT, hR, lp, q⟩ := h
  have G_Program := ok_Program___init__ (P := P) (w := w) (base := base) T
  have G__law_written := ok__law_written (P := P) (w := w) (base := base) T
  have GB := okb_format_program (P := P) (w := w) (base := base) T
  have G_format_program := GB.1
  have GK_format_program := GB.2
  have GC := okb_parse_program (P := P) (w := w) (base := base) T
  have G_parse_program := GC.1
  have GK_parse_program := GC.2
  have G_Program_boxes := ok_Program_boxes (P := P) (w := w) (base := base) T
  have G_Program_functions := ok_Program_functions (P := P) (w := w) (base := base) T
  have G_Program_parameters := ok_Program_parameters (P := P) (w := w) (base := base) T
  have G_Program_body := ok_Program_body (P := P) (w := w) (base := base) T
  have G_eq := ok_Program___eq__ (P := P) (w := w) (base := base) T TI
  have G_len := ok_Program___len__ (P := P) (w := w) (base := base) T
  have hme := T.meth ("Program", "__eq__") (by decide +kernel)
  have hml := T.meth ("Program", "__len__") (by decide +kernel)
  have opNE := op_neG (X := (cxOf CX0 P w K mg base ["_law_table", "_law_rows_here", "_law_made", "_law_due", "_law_told", "_law_goal"] d__law_text_right.qual d__law_text_right.scope (He.ga K "_law_text_right") cdv A outer s H E).nox) (n := 3) mon_prog (eqG_insR G_eq hme) (hr.mono (by omega))
  have opEQ := op_eqG (X := (cxOf CX0 P w K mg base ["_law_table", "_law_rows_here", "_law_made", "_law_due", "_law_told", "_law_goal"] d__law_text_right.qual d__law_text_right.scope (He.ga K "_law_text_right") cdv A outer s H E).nox) (n := 3) (rcG_insR G_eq hme) (hr.mono (by omega))
  have opLN := call_lenO (X := (cxOf CX0 P w K mg base ["_law_table", "_law_rows_here", "_law_made", "_law_due", "_law_told", "_law_goal"] d__law_text_right.qual d__law_text_right.scope (He.ga K "_law_text_right") cdv A outer s H E).nox) hml G_len (hr.mono (by omega))
  refine ⟨_, pss_cons (ps_par (i := 2) (j := 3) (by rfl) sc__law_text_right.nd rfl rfl (by decide) rfl rfl (pa_cons (pmakeK G_Program hr (T.cls "Program" (by decide +kernel)).2 (T.glo "Program" (by decide +kernel)).1 (pa_cons (pv 0) pa_nil) (pk_cons (pv 1) pk_nil)) (pa_cons (pcall G__law_written hr (T.glo "_law_written" (by decide +kernel)) (pa_cons (pv 0) (pa_cons (pv 1) pa_nil))) pa_nil)) (by rfl))
    (pss_cons (ps_if (PW.pt (pw_or (pt_cmpR (op_ne) (pcall G_format_program hr (T.glo "format_program" (by decide +kernel)) (pa_cons (pv 2) pa_nil)) (pv 3) (nomark _)) (pw_or1 (pt_cmpR (op_ne) (pcallK0 GK_format_program hr (T.glo "format_program" (by decide +kernel)) (pk_cons (pv 2) pk_nil)) (pv 3) (nomark _))))) (pss_one (ps_ret pe_bl)) pss_nil)
    (pss_cons (ps_set (i := 4) sc__law_text_right.nd rfl (by first | exact Or.inl rfl | exact Or.inr rfl) (pe_lst (pa_cons (pcall G_parse_program hr (T.glo "parse_program" (by decide +kernel)) (pa_cons (pv 3) pa_nil)) (pa_cons (pcallK0 GK_parse_program hr (T.glo "parse_program" (by decide +kernel)) (pk_cons (pv 3) pk_nil)) pa_nil))))
    (pss_cons (ps_if (PW.pt (pw_or (pt_cmpR opNE (pv 4) (pe_lst (pa_cons (pv 2) (pa_cons (pv 2) pa_nil))) (nomark _)) (pw_or1 (pt_cmpR (op_ne) (pe_callB (call_reprD hr hgd) (by rfl) (T.free "repr" (by decide +kernel)) (by decide +kernel) (pa_cons (pe_lst (pa_cons (pmeth0' (T.cls "Program" (by decide +kernel)).1 (T.meth ("Program", "boxes") (by decide +kernel)) G_Program_boxes hr (pe_ix (r := rIxL K) ix_list (pv 4) pe_int (fun _ _ => rfl))) (pa_cons (pmeth0' (T.cls "Program" (by decide +kernel)).1 (T.meth ("Program", "functions") (by decide +kernel)) G_Program_functions hr (pe_ix (r := rIxL K) ix_list (pv 4) pe_int (fun _ _ => rfl))) pa_nil))) pa_nil)) (pe_callB (call_reprD hr hgd) (by rfl) (T.free "repr" (by decide +kernel)) (by decide +kernel) (pa_cons (pe_lst (pa_cons (pv 1) (pa_cons (pe_callTy (call_listD rfl) (by rfl) (T.free "list" (by decide +kernel)) (by decide +kernel) (pa_cons (pv 0) pa_nil)) pa_nil))) pa_nil)) (nomark _))))) (pss_one (ps_ret pe_bl)) pss_nil)
    (pss_cons (ps_lock (ps_for PassesOwn.never rfl (pi_keys (pv 0)) (pg_name (i := 5) sc__law_text_right.nd rfl (by first | exact Or.inl rfl | exact Or.inr rfl))
    (pss_one (ps_if (pt_cmpR (op_ne) (pe_callB (call_reprD hr hgd) (by rfl) (T.free "repr" (by decide +kernel)) (by decide +kernel) (pa_cons (pe_lst (pa_cons (pe_methR (pe_ix (r := rIxL K) ix_list (pv 4) pe_int (fun _ _ => rfl)) (T.cls "Program" (by decide +kernel)).1 (T.meth ("Program", "parameters") (by decide +kernel)) G_Program_parameters (hr.mono (by omega)) pass0 (pa_cons (pv 5) pa_nil)) (pa_cons (pe_methR (pe_ix (r := rIxL K) ix_list (pv 4) pe_int (fun _ _ => rfl)) (T.cls "Program" (by decide +kernel)).1 (T.meth ("Program", "body") (by decide +kernel)) G_Program_body (hr.mono (by omega)) pass0 (pa_cons (pv 5) pa_nil)) pa_nil))) pa_nil)) (pe_callB (call_reprD hr hgd) (by rfl) (T.free "repr" (by decide +kernel)) (by decide +kernel) (pa_cons (pe_lst (pa_cons (pe_callTy call_list_of (by rfl) (T.free "list" (by decide +kernel)) (by decide +kernel) (pa_cons (pe_ix (r := rIxT K) ix_tup (pe_dget (hu_of hr) (pv 0) (pv 5) (fun _ _ => rfl)) pe_int (fun _ _ => rfl)) pa_nil)) (pa_cons (pe_ix (r := rIxT K) ix_tup (pe_dget (hu_of hr) (pv 0) (pv 5) (fun _ _ => rfl)) pe_int (fun _ _ => rfl)) pa_nil))) pa_nil)) (nomark _)) (pss_one (ps_ret pe_bl)) pss_nil))))
    (pss_one (ps_ret (pe_and (pe_cmpR (op_eq) (pcall G_format_program hr (T.glo "format_program" (by decide +kernel)) (pa_cons (pe_ix (r := rIxL K) ix_list (pv 4) pe_int (fun _ _ => rfl)) pa_nil)) (pv 3) (nomark _)) (pe_and (pe_cmpR opEQ (pv 2) (pmakeK G_Program hr (T.cls "Program" (by decide +kernel)).2 (T.glo "Program" (by decide +kernel)).1 (pa_cons (pv 0) pa_nil) (pk_cons (pv 1) pk_nil)) (nomark _)) (pe_one (pe_cmpR (op_eq) (pe_callB opLN (by rfl) (T.free "len" (by decide +kernel)) (by decide +kernel) (pa_cons (pe_ix (r := rIxL K) ix_list (pv 4) pe_int (fun _ _ => rfl)) pa_nil)) (pe_callB opLN (by rfl) (T.free "len" (by decide +kernel)) (by decide +kernel) (pa_cons (pv 2) pa_nil)) (nomark _))))))))))), ?_⟩
  have zl := line_big
  refine sq ?_
  simp only [tPar]
  walk_at "wp"
  intro p dx np ndx pne
  obtain ⟨tv, eT, hTd⟩ := id hT
  obtain ⟨rv, eR, hRd⟩ := id hR
  have sM := same_make (C := He.ga K "Program") np ndx
  have ntp : ta ≠ p := by rintro rfl; rw [eT] at np; cases np
  have nlp' : la ≠ p := by rintro rfl; rw [eR] at np; cases np
  refine ⟨p, dx, ta, la, fs, bs, rfl, upd_same, hT.same sM, hR.same sM, lp.ok, ntp, nlp', fun H1 X1 g1 => ⟨rfl, ?_⟩⟩
  have s1 := SameX.new np ndx pne (C := He.ga K "Program") X1
  have g1 := g1.at
  refine ⟨ta, la, fs, bs, rfl, hT.same s1, hR.same s1, lp, fun H2 s2 => ?_⟩
  have s02 := s1.trans s2
  refine sq ?_
  walk_at "wp"
  have g2 := g1.same s2
  refine ⟨p, fs, bs, rfl, g2, lp.fmt, fun H3 s3 => ⟨rfl, iteFb (by simp) ⟨p, fs, bs, rfl, g2.same s3, lp.fmt, fun H4 s4 => ⟨rfl, iteFb (by simp) ?_⟩⟩⟩⟩
  have s04 := s02.trans (s3.trans s4)
  have gp4 := (g2.same s3).same s4
  clear s3 s4
  refine sq ?_
  walk_at "wp"
  refine ⟨fs, bs, rfl, lp, fun H5 p1 s5 np1 g5 => ⟨fs, bs, rfl, lp, fun H6 p2 s6 np2 g6 => ⟨by decide, fun tl ntl => ?_⟩⟩⟩
  have s7 := same_new ntl (.lst [V.ref p1, V.ref p2])
  have e7 := upd_same (H := H6) (a := tl) (o := .lst [V.ref p1, V.ref p2])
  generalize upd H6 tl (.lst [V.ref p1, V.ref p2]) = H7 at s7 e7 ⊢
  have s07 := s04.trans (s5.trans (s6.trans s7))
  have n1 : ProgN K H H7 p1 fs bs := by
    obtain ⟨dx, h, b, r, t, l, a1, a2, a3, hp, a, b', c, d, e1, e2, e3, e4, e5, e6, e7', e8⟩ := g5.back s04
    have s57 := s6.trans s7
    exact ⟨dx, h, b, r, t, l, a1, a2, a3, s57 _ _ hp, a, b', c, d, s57 _ _ e1, e2.keep (tups_of s57), s57 _ _ e3, e4.keep (tups_of s57), s57 _ _ e5, e6.keep (tups_of s57), s57 _ _ e7', e8⟩
  have h1 := n1.at
  have h2 : ProgAt K H7 p2 fs bs := g6.at.same s7
  have hp7 := gp4.same (s5.trans (s6.trans s7))
  refine sq ?_
  walk_at "wp"
  refine ⟨by decide, fun l8 nl8 => ?_⟩
  have s8 := same_new nl8 (.lst [V.ref p, V.ref p])
  have e8 := upd_same (H := H7) (a := l8) (o := .lst [V.ref p, V.ref p])
  generalize upd H7 l8 (.lst [V.ref p, V.ref p]) = H8 at s8 e8 ⊢
  have ins : ∀ H' q, ProgAt K H' q fs bs → ∃ dq fq, H' q = some (.ins (He.ga K "Program") dq fq) := fun H' q ⟨dx, h, b, r, t, l, e, _⟩ => ⟨dx, _, e⟩
  have eqP : ∀ H' q q', ProgAt K H' q fs bs → ProgAt K H' q' fs bs → DIns (He.ga K "Program") (ProgEq K) (.ref q) (.ref q') H' := fun H' q q' a b => by
    obtain ⟨dq, fq, eq⟩ := ins H' q a
    obtain ⟨dq', fq', eq'⟩ := ins H' q' b
    exact ⟨q, q', dq, dq', fq, fq', rfl, rfl, eq, eq', fs, bs, a, b, lp.ok⟩
  refine ⟨⟨tl, l8, _, _, rfl, rfl, s8 _ _ e7, e8, .cons (eqP _ _ _ (h1.same s8) (hp7.same s8)) (.cons (eqP _ _ _ (h2.same s8) (hp7.same s8)) .nil)⟩, fun H9 s9 => ?_⟩
  have s89 := s8.trans s9
  obtain ⟨dx1, a1, a2, a3, a4, a5, hq1, hf1⟩ := id h1
  obtain ⟨w1, w2, w3, w4⟩ := lp.parts
  refine ⟨false, rfl, iteFb rfl (ixL_at 0 (.of (s89 _ _ e7)) rfl ⟨p1, rfl, dx1, _, s89 _ _ hq1, rfl, p1, fs, bs, rfl, h1.same s89, fun H10 bl s10 nbl hbl => ?_⟩)⟩
  have s810 := s89.trans s10
  refine ixL_at 0 (.of (s810 _ _ e7)) rfl ⟨p1, rfl, dx1, _, s810 _ _ hq1, rfl, p1, fs, bs, rfl, h1.same s810, fun H11 nl s11 nnl hnl => ⟨by decide, fun l12 nl12 => ?_⟩⟩
  have s12 := same_new nl12 (.lst [V.ref bl, V.ref nl])
  have e12 := upd_same (H := H11) (a := l12) (o := .lst [V.ref bl, V.ref nl])
  generalize upd H11 l12 (.lst [V.ref bl, V.ref nl]) = H12 at s12 e12 ⊢
  obtain ⟨bv, ebv, hbv⟩ := hbl.same (s11.trans s12)
  refine ⟨l12, partsD fs bs, rfl, .lst (.of e12) (.cons (.lst (.of ebv) hbv.dp) (.cons (.lst (.of (s12 _ _ hnl)) (dpa_strs _)) .nil)), w1, w2, w3, w4, ?_⟩
  have s712 := s810.trans (s11.trans s12)
  have sH12 := s07.trans s712
  refine ⟨_, .inl (sH12 _ _ eT), fun c13 nc13 => ⟨by decide, fun l14 nl14 => ?_⟩⟩
  have ltv := dta_len hTd
  rw [List.length_map] at ltv
  rw [kvz_keys (by rw [List.length_map]; exact ltv)] at nl14 ⊢
  have s13 := same_new nc13 (.lst ((fs.map Fn91.name).map V.str))
  have e13 := upd_same (H := H12) (a := c13) (o := .lst ((fs.map Fn91.name).map V.str))
  generalize upd H12 c13 (.lst ((fs.map Fn91.name).map V.str)) = H13 at s13 e13 nl14 ⊢
  have s14 := same_new nl14 (.lst [V.ref la, V.ref c13])
  have e14 := upd_same (H := H13) (a := l14) (o := .lst [V.ref la, V.ref c13])
  generalize upd H13 l14 (.lst [V.ref la, V.ref c13]) = H14 at s14 e14 ⊢
  have s714 := s712.trans (s13.trans s14)
  have sH14 := s07.trans s714
  refine ⟨l14, partsD fs bs, rfl, .lst (.of e14) (.cons (.lst (.of (sH14 _ _ eR)) (hRd.keep (tups_of sH14)).dp) (.cons (.lst (.of (s14 _ _ e13)) (dpa_strs _)) .nil)), w1, w2, w3, w4, rfl, iteFb (by simp) ?_⟩
  have e14t := s714 _ _ e7
  have h1' := h1.same s714
  have h2' := h2.same s714
  have hp' := hp7.same s714
  have n14 : ProgN K H H14 p1 fs bs := by
    obtain ⟨dx, h, b, r, t, l, a1, a2, a3, hp, a, b', c, d, e1, e2, e3, e4, e5, e6, e7', e8⟩ := n1
    exact ⟨dx, h, b, r, t, l, a1, a2, a3, s714 _ _ hp, a, b', c, d, s714 _ _ e1, e2.keep (tups_of s714), s714 _ _ e3, e4.keep (tups_of s714), s714 _ _ e5, e6.keep (tups_of s714), s714 _ _ e7', e8⟩
  have eT14 := sH14 _ _ eT
  have eR14 := sH14 _ _ eR
  clear s13 e13 s14 e14 nl14 nc13 s12 e12 hnl nnl s11 s10 s9 s8 e8
  refine sq ?_
  walk_at "wp"
  refine ⟨ta, _, eT14, trivial, fun od => ⟨od, .inl ⟨_, upd_same, ?_⟩⟩⟩
  have hL1 := n14.lock eT eT14 (.frz od (.dK (kvz (fs.map Fn91.name) tv)))
  have hTL := (hTd.keep (tups_of sH14)).keep (tups_lock eT14 (.frz od (.dK (kvz (fs.map Fn91.name) tv))))
  have eTL : (upd H14 ta (.frz od (.dK (kvz (fs.map Fn91.name) tv)))) ta = some (.frz od (.dK (kvz (fs.map Fn91.name) tv))) := upd_same
  have ntl' : tl ≠ ta := by rintro rfl; rw [e14t] at eT14; cases eT14
  have etL : (upd H14 ta (.frz od (.dK (kvz (fs.map Fn91.name) tv)))) tl = some (.lst [V.ref p1, V.ref p2]) := by rw [upd_ne ntl']; exact e14t
  have unl : ∀ H2, Same (upd H14 ta (.frz od (.dK (kvz (fs.map Fn91.name) tv)))) H2 → Same H14 (upd H2 ta (.dK (kvz (fs.map Fn91.name) tv))) := fun H2 s => same_unlock eT14 s
  generalize upd H14 ta (.frz od (.dK (kvz (fs.map Fn91.name) tv))) = HL at hL1 hTL eTL etL unl ⊢
  have nd := lp.fns.2.2.2.1
  refine forGo walk_keys (fun i σ H' => ∃ x5, σ = [some (V.ref ta), some (V.ref la), some (V.ref p), some (V.str (progText fs bs)), some (V.ref tl), x5] ∧ Same HL H')
    ⟨_, rfl, .refl _⟩ (fun i σ H' _ ⟨_, _, s⟩ => s _ _ eTL) ?_ ?_
  · rintro i y σ H15 H16 hi ⟨x5, rfl, s15⟩ ⟨eH, k', v', ek', ex⟩
    subst eH ex
    obtain ⟨g, eg, ek, ev⟩ := kvz_of ek'
    simp only at ek ev
    subst ek
    rw [List.getElem?_map] at eg
    obtain ⟨f, ef, rfl⟩ := Option.map_eq_some_iff.mp eg
    have fm := List.mem_of_getElem? ef
    obtain ⟨d, hd', gd⟩ := dta_of (hTL.keep (tups_of s15)) ev
    rw [List.getElem?_map, ef] at hd'
    obtain rfl := (Option.some.inj hd').symm
    obtain ⟨aS, xS, rfl, hTs, hAs⟩ := gd.tupI
    obtain ⟨v0, _, rfl, k0, hAs⟩ := hAs.consI
    obtain ⟨v1, _, rfl, k1, hAs⟩ := hAs.consI
    obtain rfl := hAs.nilI
    obtain ⟨aH, xH, rfl, hTh, hAh⟩ := k0.tupI
    obtain rfl := dta_strs hAh
    have hval : valV (kvz (fs.map Fn91.name) tv) (.inr f.name) = some (V.ref aS) := kvz_val nd (by rw [List.getElem?_map, ef]; rfl) ev
    have dget : ∀ H', H' ta = some (.frz od (.dK (kvz (fs.map Fn91.name) tv))) → DGet H' ta (.str f.name) (some (V.ref aS)) := fun H' e => .inl ⟨_, .inr f.name, .inr ⟨od, e⟩, rfl, hval.symm⟩
    have eT15 := s15 _ _ eTL
    have et15 := s15 _ _ etL
    have hq := hL1.same s15
    rw [show kV (Sum.inr f.name) = V.str f.name from rfl]
    walk_at "wp"
    obtain ⟨dx2, b1, b2, b3, b4, b5, hq2, _⟩ := id hq
    obtain ⟨u1, u2, u3, u4⟩ := lp.fn fm
    refine ixL_at 0 (.of et15) rfl ⟨p1, rfl, dx2, _, hq2, rfl, p1, fs, bs, f, rfl, hq, fm, nd, fun H17 pl s17 npl epl => ?_⟩
    refine ixL_at 0 (.of (s17 _ _ et15)) rfl ⟨p1, rfl, dx2, _, s17 _ _ hq2, rfl, p1, fs, bs, f, rfl, hq.same s17, fm, nd, fun H18 vb s18 gvb => ⟨by decide, fun l19 nl19 => ?_⟩⟩
    have s19 := same_new nl19 (.lst [V.ref pl, vb])
    have e19 := upd_same (H := H18) (a := l19) (o := .lst [V.ref pl, vb])
    generalize upd H18 l19 (.lst [V.ref pl, vb]) = H19 at s19 e19 ⊢
    refine ⟨l19, fnD f, rfl, .lst (.of e19) (.cons (.lst (.of ((s18.trans s19) _ _ epl)) (dpa_strs _)) (.cons (gvb.keep (tups_of s19)).dp .nil)), u1, u2, u3, u4, ?_⟩
    have s1519 := s17.trans (s18.trans s19)
    refine ⟨V.ref aS, dget _ (s1519 _ _ eT15), ixT_at 0 ((tups_of s1519).sqT hTs) rfl ⟨aH, rfl, _, .inr ((tups_of s1519).sqT hTh), fun c20 nc20 => ?_⟩⟩
    have s20 := same_new nc20 (.lst (f.heads.map V.str))
    have e20 := upd_same (H := H19) (a := c20) (o := .lst (f.heads.map V.str))
    generalize upd H19 c20 (.lst (f.heads.map V.str)) = H20 at s20 e20 ⊢
    have s1520 := s1519.trans s20
    refine ⟨V.ref aS, dget _ (s1520 _ _ eT15), ixT_at 1 ((tups_of s1520).sqT hTs) rfl ⟨by decide, fun l21 nl21 => ?_⟩⟩
    have s21 := same_new nl21 (.lst [V.ref c20, v1])
    have e21 := upd_same (H := H20) (a := l21) (o := .lst [V.ref c20, v1])
    generalize upd H20 l21 (.lst [V.ref c20, v1]) = H21 at s21 e21 ⊢
    exact ⟨l21, fnD f, rfl, .lst (.of e21) (.cons (.lst (.of (s21 _ _ e20)) (dpa_strs _)) (.cons (k1.keep (tups_of (s1520.trans s21))).dp .nil)), u1, u2, u3, u4, rfl, iteFb (by simp) (s15.trans (s1520.trans s21))⟩
  · rintro σ H15 ⟨x5, rfl, s15⟩
    have s16 := unl _ s15
    refine ⟨s15 _ _ eTL, V.ref tl, rfl, ?_⟩
    generalize upd H15 ta (.dK (kvz (fs.map Fn91.name) tv)) = H16 at s16 ⊢
    have et16 := s16 _ _ e14t
    refine ixL_at 1 (.of et16) rfl ⟨p2, fs, bs, rfl, h2'.same s16, lp.fmt, fun H17 s17 => ⟨_, rfl, rfl, iteTb (by simp) ⟨_, rfl, _, rfl, _, rfl, fun qq dq nq ndq nne => ?_⟩⟩⟩
    have s1617 := s16.trans s17
    have sH17 := sH14.trans s1617
    have sQ := same_make (C := He.ga K "Program") nq ndq
    have eT17 := sH17 _ _ eT
    have eR17 := sH17 _ _ eR
    have nqt : ta ≠ qq := ne_new eT17 nq
    have nql : la ≠ qq := ne_new eR17 nq
    have hT17 := hT.same sH17
    have hR17 := hR.same sH17
    refine ⟨qq, dq, ta, la, fs, bs, rfl, upd_same, hT17.same sQ, hR17.same sQ, lp.ok, nqt, nql, fun H18 X18 g18 => ⟨rfl, ?_⟩⟩
    have s18 := SameX.new nq ndq nne (C := He.ga K "Program") X18
    have s1618 := s1617.trans s18
    refine ⟨eqP _ _ _ (hp'.same s1618) g18.at, fun H19 s19 => ⟨true, rfl, ?_⟩⟩
    have s19' := s1618.trans s19
    obtain ⟨dq1, fq1, eq1⟩ := ins _ _ (h1'.same s19')
    obtain ⟨dq2, fq2, eq2⟩ := ins _ _ (hp'.same s19')
    have hc := lp.cnt
    refine iteTb rfl ⟨_, rfl, ixL_at 0 (.of (s19' _ _ e14t)) rfl ⟨p1, dq1, fq1, rfl, eq1, p1, fs, bs, rfl, h1'.same s19', _, rfl, by omega, _, rfl, p, dq2, fq2, rfl, eq2, p, fs, bs, rfl, hp'.same s19', _, rfl, by omega, rfl, ?_⟩⟩
    rw [decide_eq_true rfl]
    exact q _ (sH14.trans s19')
end
end K91
set_option Elab.async false
set_option linter.all false
set_option maxRecDepth 100000
set_option maxHeartbeats 4000000
namespace K91
open PySem PySem.Spec PyProof.Rows L2
/-! ### the law, all together -/
theorem all_of {P : Program} {w : World} {K : PySem.W.Frag} {mg : Str → Option Value} {base : Heap} (T : Top K mg w) (TI : IsC K (He.ga K "Program")) : FnG P w K mg base 75 (He.ga K "law") (spLaw K) := by
  have R := ok__law_text_right (P := P) (w := w) (base := base) T TI
  exact ok_law T (ok__law_cell_holds T R) (ok__law_long_right T R)
end K91
open PySem PySem.W PySem.Calls PyProof.Rows
set_option maxHeartbeats 0 in
theorem PySem.Challenge.cw_samepoint_k91_whole_program_texts_both_w_holds : PySem.Challenge.rw_samepoint_k91_whole_program_texts_both_w.Holds := by
  w_on; o_law
  refine HandSHeadRun.head_any (r := K91.RR) (q := K91.qv) (H := K91.hk) (ob := K91.ob) (M := 20000) (loose := K91.loose) (d := HandSHeadRun.topDef K91.RR.prog 77) (kwd := []) K91.ob_eq
    (by kernel_rfl) (fun s => by kernel_rfl) K91.run91 (by kernel_rfl) (by kernel_rfl) (by kernel_rfl) (by rfl) (by first | assumption | decide +kernel) (by decide +kernel) ⟨rfl, rfl, rfl, rfl, rfl, by decide +kernel⟩ ?hw ?hc
  case hw => w_witness2
  case hc =>
    refine Att.attach_call (l := PySem.Challenge.rw_samepoint_k91_whole_program_texts_both_w) (n := 63) rfl (by kernel_rfl) fun w s0 s1 mg mb fa o pm cd doc a vs ns G Y ho hd hcd hmg0 hobj hints hlen hg => ?_
    obtain ⟨K, KX, c⟩ := Y
    have hmg : mg ("law" : PySem.Str) = some (.ref fa) := by
      have e : (HandSHeadRun.topDef K91.RR.prog 77).name = ("law" : PySem.Str) := by kernel_rfl
      rw [← e]
      exact hmg0
    obtain ⟨T, TI⟩ := K91.top_of KX G.T.g c
    have e := hmg.symm.trans (T.glo "law" (by decide +kernel)).1
    cases e
    exact K91.enterG KX G.T.g G.T.b G.T.builtins G.T.nolimit hg hobj hints (Nat.le_trans hlen (by decide)) ⟨rfl, by decide, by decide⟩ (fun base => K91.all_of T TI) fun H hS => ⟨a, ns, rfl, hS, hlen, fun _ => rfl⟩
