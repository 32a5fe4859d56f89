import PyProof.Rows.All
import Wide.All
import OpenK.AllK
import Wide.FinOn
import HandS.ForMost
import HandS.Exc
import HandS.Defaults
import HandS.DictComp
import HandS.DeepEq
import HandS.OwnEq
import HandS.StrMore
import HandS.IsInst
import HandS.Walk
import HandS.More
import HandS.ReplaceLit
import HandS.ReplaceList
import HandS.Conv
import HandS.Codes
import HandS.Head0
import HandS.Head1
import HandS.Head2
import HandS.HeadEnd
import HandS.HeadHook1
import HandS.HeadHook2
import HandS.HeadHook3
import HandS.HeadHook4
import PySem.Challenge.RW_kilnyard_k14_whole_books_are_read
import HandS.MakeKwOnly
import HandS.Head3
set_option Elab.async false
set_option linter.all false
set_option maxRecDepth 100000
set_option maxHeartbeats 0
/-! The defs of the row's text by their places, the datum of each, and what the head is to tell of them. -/
namespace Ky
open PySem L2
def top (i : Nat) : Stmt := PySem.Challenge.pw_kilnyard_k14_whole_books_are_read.main.body.getD i (.Pass ⟨0, 0, 0, 0⟩)
abbrev s_is_identifier : Stmt := top 12
abbrev d_is_identifier : He.DefD := ⟨("is_identifier", none), "is_identifier", "is_identifier", defArgs s_is_identifier, defBody s_is_identifier, defScope s_is_identifier, [], []⟩
abbrev N_is_identifier : List Str := ["value", "char"]
abbrev P_is_identifier : List Str := ["value"]
abbrev s_is_skipped : Stmt := top 13
abbrev d_is_skipped : He.DefD := ⟨("is_skipped", none), "is_skipped", "is_skipped", defArgs s_is_skipped, defBody s_is_skipped, defScope s_is_skipped, [], []⟩
abbrev N_is_skipped : List Str := ["line", "rest"]
abbrev P_is_skipped : List Str := ["line"]
abbrev s_scan_string : Stmt := top 14
abbrev d_scan_string : He.DefD := ⟨("scan_string", none), "scan_string", "scan_string", defArgs s_scan_string, defBody s_scan_string, defScope s_scan_string, [], []⟩
abbrev N_scan_string : List Str := ["path", "number", "line", "at", "pieces", "place", "char"]
abbrev P_scan_string : List Str := ["path", "number", "line", "at"]
abbrev s_word_end : Stmt := top 15
abbrev d_word_end : He.DefD := ⟨("word_end", none), "word_end", "word_end", defArgs s_word_end, defBody s_word_end, defScope s_word_end, [], []⟩
abbrev N_word_end : List Str := ["line", "at", "end"]
abbrev P_word_end : List Str := ["line", "at"]
abbrev s_scan_line : Stmt := top 16
abbrev d_scan_line : He.DefD := ⟨("scan_line", none), "scan_line", "scan_line", defArgs s_scan_line, defBody s_scan_line, defScope s_scan_line, [], []⟩
abbrev N_scan_line : List Str := ["path", "number", "line", "tokens", "at", "char", "text", "end"]
abbrev P_scan_line : List Str := ["path", "number", "line"]
abbrev s_Line___init__ : Stmt := inClass (top 17) 0
abbrev d_Line___init__ : He.DefD := ⟨("Line", some "__init__"), "__init__", "Line.__init__", defArgs s_Line___init__, defBody s_Line___init__, defScope s_Line___init__, [], []⟩
abbrev N_Line___init__ : List Str := ["self", "path", "number", "line"]
abbrev P_Line___init__ : List Str := ["self", "path", "number", "line"]
abbrev s_Line_need : Stmt := inClass (top 17) 3
abbrev d_Line_need : He.DefD := ⟨("Line", some "need"), "need", "Line.need", defArgs s_Line_need, defBody s_Line_need, defScope s_Line_need, [], []⟩
abbrev N_Line_need : List Str := ["self", "at"]
abbrev P_Line_need : List Str := ["self", "at"]
abbrev s_Line_finish : Stmt := inClass (top 17) 4
abbrev d_Line_finish : He.DefD := ⟨("Line", some "finish"), "finish", "Line.finish", defArgs s_Line_finish, defBody s_Line_finish, defScope s_Line_finish, [], []⟩
abbrev N_Line_finish : List Str := ["self", "at"]
abbrev P_Line_finish : List Str := ["self", "at"]
abbrev s_Line_word : Stmt := inClass (top 17) 5
abbrev d_Line_word : He.DefD := ⟨("Line", some "word"), "word", "Line.word", defArgs s_Line_word, defBody s_Line_word, defScope s_Line_word, [], []⟩
abbrev N_Line_word : List Str := ["self", "at"]
abbrev P_Line_word : List Str := ["self", "at"]
abbrev s_Line_identifier : Stmt := inClass (top 17) 6
abbrev d_Line_identifier : He.DefD := ⟨("Line", some "identifier"), "identifier", "Line.identifier", defArgs s_Line_identifier, defBody s_Line_identifier, defScope s_Line_identifier, [], [("barred", .str "")]⟩
abbrev N_Line_identifier : List Str := ["self", "at", "barred", "name"]
abbrev P_Line_identifier : List Str := ["self", "at", "barred"]
abbrev s_is_sign : Stmt := top 22
abbrev d_is_sign : He.DefD := ⟨("is_sign", none), "is_sign", "is_sign", defArgs s_is_sign, defBody s_is_sign, defScope s_is_sign, [], []⟩
abbrev N_is_sign : List Str := ["tokens", "at", "sign"]
abbrev P_is_sign : List Str := ["tokens", "at", "sign"]
abbrev s_parse_expression : Stmt := top 23
abbrev d_parse_expression : He.DefD := ⟨("parse_expression", none), "parse_expression", "parse_expression", defArgs s_parse_expression, defBody s_parse_expression, defScope s_parse_expression, [], []⟩
abbrev N_parse_expression : List Str := ["tokens", "start", "known"]
abbrev P_parse_expression : List Str := ["tokens", "start", "known"]
abbrev s_parse_terms : Stmt := top 24
abbrev d_parse_terms : He.DefD := ⟨("parse_terms", none), "parse_terms", "parse_terms", defArgs s_parse_terms, defBody s_parse_terms, defScope s_parse_terms, [], []⟩
abbrev N_parse_terms : List Str := ["tokens", "start", "known", "depth", "term", "at", "terms"]
abbrev P_parse_terms : List Str := ["tokens", "start", "known", "depth"]
abbrev s_parse_term : Stmt := top 25
abbrev d_parse_term : He.DefD := ⟨("parse_term", none), "parse_term", "parse_term", defArgs s_parse_term, defBody s_parse_term, defScope s_parse_term, [], []⟩
abbrev N_parse_term : List Str := ["tokens", "at", "known", "depth", "kind", "text", "column"]
abbrev P_parse_term : List Str := ["tokens", "at", "known", "depth"]
abbrev s_parse_call : Stmt := top 26
abbrev d_parse_call : He.DefD := ⟨("parse_call", none), "parse_call", "parse_call", defArgs s_parse_call, defBody s_parse_call, defScope s_parse_call, [], []⟩
abbrev N_parse_call : List Str := ["tokens", "at", "known", "depth", "_", "function", "column", "arguments", "place", "argument", "complete"]
abbrev P_parse_call : List Str := ["tokens", "at", "known", "depth"]
abbrev s_BodyReader___init__ : Stmt := inClass (top 31) 0
abbrev d_BodyReader___init__ : He.DefD := ⟨("BodyReader", some "__init__"), "__init__", "BodyReader.__init__", defArgs s_BodyReader___init__, defBody s_BodyReader___init__, defScope s_BodyReader___init__, [], []⟩
abbrev N_BodyReader___init__ : List Str := ["self", "path", "lines", "at", "output_count"]
abbrev P_BodyReader___init__ : List Str := ["self", "path", "lines", "at", "output_count"]
abbrev s_BodyReader_next_line : Stmt := inClass (top 31) 1
abbrev d_BodyReader_next_line : He.DefD := ⟨("BodyReader", some "next_line"), "next_line", "BodyReader.next_line", defArgs s_BodyReader_next_line, defBody s_BodyReader_next_line, defScope s_BodyReader_next_line, [], []⟩
abbrev N_BodyReader_next_line : List Str := ["self", "line"]
abbrev P_BodyReader_next_line : List Str := ["self"]
abbrev s_BodyReader_read_block : Stmt := inClass (top 31) 2
abbrev d_BodyReader_read_block : He.DefD := ⟨("BodyReader", some "read_block"), "read_block", "BodyReader.read_block", defArgs s_BodyReader_read_block, defBody s_BodyReader_read_block, defScope s_BodyReader_read_block, [], []⟩
abbrev N_BodyReader_read_block : List Str := ["self", "known", "depth", "may_have_else", "names", "body", "line", "word"]
abbrev P_BodyReader_read_block : List Str := ["self", "known", "depth", "may_have_else"]
abbrev s_BodyReader_read_statement : Stmt := inClass (top 31) 3
abbrev d_BodyReader_read_statement : He.DefD := ⟨("BodyReader", some "read_statement"), "read_statement", "BodyReader.read_statement", defArgs s_BodyReader_read_statement, defBody s_BodyReader_read_statement, defScope s_BodyReader_read_statement, [], []⟩
abbrev N_BodyReader_read_statement : List Str := ["self", "line", "word", "names", "depth", "name", "statement"]
abbrev P_BodyReader_read_statement : List Str := ["self", "line", "word", "names", "depth"]
abbrev s_BodyReader_read_put : Stmt := inClass (top 31) 4
abbrev d_BodyReader_read_put : He.DefD := ⟨("BodyReader", some "read_put"), "read_put", "BodyReader.read_put", defArgs s_BodyReader_read_put, defBody s_BodyReader_read_put, defScope s_BodyReader_read_put, [], []⟩
abbrev N_BodyReader_read_put : List Str := ["self", "line", "names", "number"]
abbrev P_BodyReader_read_put : List Str := ["self", "line", "names"]
abbrev s_BodyReader_read_if : Stmt := inClass (top 31) 5
abbrev d_BodyReader_read_if : He.DefD := ⟨("BodyReader", some "read_if"), "read_if", "BodyReader.read_if", defArgs s_BodyReader_read_if, defBody s_BodyReader_read_if, defScope s_BodyReader_read_if, [], []⟩
abbrev N_BodyReader_read_if : List Str := ["self", "line", "names", "depth", "expression", "then_body", "word", "else_body", "_"]
abbrev P_BodyReader_read_if : List Str := ["self", "line", "names", "depth"]
abbrev s_BodyReader_read_each : Stmt := inClass (top 31) 6
abbrev d_BodyReader_read_each : He.DefD := ⟨("BodyReader", some "read_each"), "read_each", "BodyReader.read_each", defArgs s_BodyReader_read_each, defBody s_BodyReader_read_each, defScope s_BodyReader_read_each, [], []⟩
abbrev N_BodyReader_read_each : List Str := ["self", "line", "names", "depth", "name", "expression", "body", "_"]
abbrev P_BodyReader_read_each : List Str := ["self", "line", "names", "depth"]
abbrev s_read_expression : Stmt := top 32
abbrev d_read_expression : He.DefD := ⟨("read_expression", none), "read_expression", "read_expression", defArgs s_read_expression, defBody s_read_expression, defScope s_read_expression, [], []⟩
abbrev N_read_expression : List Str := ["line", "at", "names", "expression", "end", "bad"]
abbrev P_read_expression : List Str := ["line", "at", "names"]
abbrev s_is_name : Stmt := top 37
abbrev d_is_name : He.DefD := ⟨("is_name", none), "is_name", "is_name", defArgs s_is_name, defBody s_is_name, defScope s_is_name, [], []⟩
abbrev N_is_name : List Str := ["value", "characters", "char"]
abbrev P_is_name : List Str := ["value", "characters"]
abbrev s_is_path : Stmt := top 38
abbrev d_is_path : He.DefD := ⟨("is_path", none), "is_path", "is_path", defArgs s_is_path, defBody s_is_path, defScope s_is_path, [], []⟩
abbrev N_is_path : List Str := ["value", "names", "name"]
abbrev P_is_path : List Str := ["value"]
abbrev s_is_pattern : Stmt := top 39
abbrev d_is_pattern : He.DefD := ⟨("is_pattern", none), "is_pattern", "is_pattern", defArgs s_is_pattern, defBody s_is_pattern, defScope s_is_pattern, [], []⟩
abbrev N_is_pattern : List Str := ["value", "names", "name"]
abbrev P_is_pattern : List Str := ["value"]
abbrev s_Rule___init__ : Stmt := inClass (top 47) 0
abbrev d_Rule___init__ : He.DefD := ⟨("Rule", some "__init__"), "__init__", "Rule.__init__", defArgs s_Rule___init__, defBody s_Rule___init__, defScope s_Rule___init__, [], []⟩
abbrev N_Rule___init__ : List Str := ["self", "outputs", "inputs", "sealed", "body"]
abbrev P_Rule___init__ : List Str := ["self", "outputs", "inputs", "sealed", "body"]
abbrev s_Rule___eq__ : Stmt := inClass (top 47) 1
abbrev d_Rule___eq__ : He.DefD := ⟨("Rule", some "__eq__"), "__eq__", "Rule.__eq__", defArgs s_Rule___eq__, defBody s_Rule___eq__, defScope s_Rule___eq__, [], []⟩
abbrev N_Rule___eq__ : List Str := ["self", "other"]
abbrev P_Rule___eq__ : List Str := ["self", "other"]
abbrev s_Rule_is_pattern : Stmt := inClass (top 47) 2
abbrev d_Rule_is_pattern : He.DefD := ⟨("Rule", some "is_pattern"), "is_pattern", "Rule.is_pattern", defArgs s_Rule_is_pattern, defBody s_Rule_is_pattern, defScope s_Rule_is_pattern, [], []⟩
abbrev N_Rule_is_pattern : List Str := ["self"]
abbrev P_Rule_is_pattern : List Str := ["self"]
abbrev s_Book___init__ : Stmt := inClass (top 48) 0
abbrev d_Book___init__ : He.DefD := ⟨("Book", some "__init__"), "__init__", "Book.__init__", defArgs s_Book___init__, defBody s_Book___init__, defScope s_Book___init__, [], []⟩
abbrev N_Book___init__ : List Str := ["self"]
abbrev P_Book___init__ : List Str := ["self"]
abbrev s_recipe_text : Stmt := top 49
abbrev d_recipe_text : He.DefD := ⟨("recipe_text", none), "recipe_text", "recipe_text", defArgs s_recipe_text, defBody s_recipe_text, defScope s_recipe_text, [], []⟩
abbrev N_recipe_text : List Str := ["tree", "path", "end"]
abbrev P_recipe_text : List Str := ["tree", "path"]
abbrev s_BookReader___init__ : Stmt := inClass (top 50) 0
abbrev d_BookReader___init__ : He.DefD := ⟨("BookReader", some "__init__"), "__init__", "BookReader.__init__", defArgs s_BookReader___init__, defBody s_BookReader___init__, defScope s_BookReader___init__, [], []⟩
abbrev N_BookReader___init__ : List Str := ["self", "tree"]
abbrev P_BookReader___init__ : List Str := ["self", "tree"]
abbrev s_BookReader_read_file : Stmt := inClass (top 50) 1
abbrev d_BookReader_read_file : He.DefD := ⟨("BookReader", some "read_file"), "read_file", "BookReader.read_file", defArgs s_BookReader_read_file, defBody s_BookReader_read_file, defScope s_BookReader_read_file, [], []⟩
abbrev N_BookReader_read_file : List Str := ["self", "path", "text", "lines", "at", "line"]
abbrev P_BookReader_read_file : List Str := ["self", "path", "text"]
abbrev s_BookReader_read_line : Stmt := inClass (top 50) 2
abbrev d_BookReader_read_line : He.DefD := ⟨("BookReader", some "read_line"), "read_line", "BookReader.read_line", defArgs s_BookReader_read_line, defBody s_BookReader_read_line, defScope s_BookReader_read_line, [], []⟩
abbrev N_BookReader_read_line : List Str := ["self", "line", "lines", "at", "word", "outputs", "colon", "inputs", "reader", "body", "_"]
abbrev P_BookReader_read_line : List Str := ["self", "line", "lines", "at"]
abbrev s_BookReader_read_setting : Stmt := inClass (top 50) 3
abbrev d_BookReader_read_setting : He.DefD := ⟨("BookReader", some "read_setting"), "read_setting", "BookReader.read_setting", defArgs s_BookReader_read_setting, defBody s_BookReader_read_setting, defScope s_BookReader_read_setting, [], []⟩
abbrev N_BookReader_read_setting : List Str := ["self", "line", "name"]
abbrev P_BookReader_read_setting : List Str := ["self", "line"]
abbrev s_BookReader_read_use : Stmt := inClass (top 50) 4
abbrev d_BookReader_read_use : He.DefD := ⟨("BookReader", some "read_use"), "read_use", "BookReader.read_use", defArgs s_BookReader_read_use, defBody s_BookReader_read_use, defScope s_BookReader_read_use, [], []⟩
abbrev N_BookReader_read_use : List Str := ["self", "line", "path", "text"]
abbrev P_BookReader_read_use : List Str := ["self", "line"]
abbrev s_BookReader_is_output : Stmt := inClass (top 50) 5
abbrev d_BookReader_is_output : He.DefD := ⟨("BookReader", some "is_output"), "is_output", "BookReader.is_output", defArgs s_BookReader_is_output, defBody s_BookReader_is_output, defScope s_BookReader_is_output, [], []⟩
abbrev N_BookReader_is_output : List Str := ["self", "path", "rule"]
abbrev P_BookReader_is_output : List Str := ["self", "path"]
abbrev s_BookReader_read_outputs : Stmt := inClass (top 50) 6
abbrev d_BookReader_read_outputs : He.DefD := ⟨("BookReader", some "read_outputs"), "read_outputs", "BookReader.read_outputs", defArgs s_BookReader_read_outputs, defBody s_BookReader_read_outputs, defScope s_BookReader_read_outputs, [], []⟩
abbrev N_BookReader_read_outputs : List Str := ["self", "line", "outputs", "at", "word"]
abbrev P_BookReader_read_outputs : List Str := ["self", "line"]
abbrev s_BookReader_check_output : Stmt := inClass (top 50) 7
abbrev d_BookReader_check_output : He.DefD := ⟨("BookReader", some "check_output"), "check_output", "BookReader.check_output", defArgs s_BookReader_check_output, defBody s_BookReader_check_output, defScope s_BookReader_check_output, [], []⟩
abbrev N_BookReader_check_output : List Str := ["self", "line", "at", "outputs", "word"]
abbrev P_BookReader_check_output : List Str := ["self", "line", "at", "outputs"]
abbrev s_read_inputs : Stmt := top 51
abbrev d_read_inputs : He.DefD := ⟨("read_inputs", none), "read_inputs", "read_inputs", defArgs s_read_inputs, defBody s_read_inputs, defScope s_read_inputs, [], []⟩
abbrev N_read_inputs : List Str := ["line", "start", "patterns_allowed", "inputs", "at", "word"]
abbrev P_read_inputs : List Str := ["line", "start", "patterns_allowed"]
abbrev s_parse_book : Stmt := top 52
abbrev d_parse_book : He.DefD := ⟨("parse_book", none), "parse_book", "parse_book", defArgs s_parse_book, defBody s_parse_book, defScope s_parse_book, [], []⟩
abbrev N_parse_book : List Str := ["tree", "text", "reader"]
abbrev P_parse_book : List Str := ["tree"]
abbrev s_is_text_code : Stmt := top 55
abbrev d_is_text_code : He.DefD := ⟨("is_text_code", none), "is_text_code", "is_text_code", defArgs s_is_text_code, defBody s_is_text_code, defScope s_is_text_code, [], []⟩
abbrev N_is_text_code : List Str := ["code"]
abbrev P_is_text_code : List Str := ["code"]
abbrev s_is_text : Stmt := top 56
abbrev d_is_text : He.DefD := ⟨("is_text", none), "is_text", "is_text", defArgs s_is_text, defBody s_is_text, defScope s_is_text, [], []⟩
abbrev N_is_text : List Str := ["value", "char"]
abbrev P_is_text : List Str := ["value"]
abbrev s_is_content : Stmt := top 57
abbrev d_is_content : He.DefD := ⟨("is_content", none), "is_content", "is_content", defArgs s_is_content, defBody s_is_content, defScope s_is_content, [], []⟩
abbrev N_is_content : List Str := ["value"]
abbrev P_is_content : List Str := ["value"]
abbrev s_Tree___init__ : Stmt := inClass (top 61) 0
abbrev d_Tree___init__ : He.DefD := ⟨("Tree", some "__init__"), "__init__", "Tree.__init__", defArgs s_Tree___init__, defBody s_Tree___init__, defScope s_Tree___init__, [], []⟩
abbrev N_Tree___init__ : List Str := ["self"]
abbrev P_Tree___init__ : List Str := ["self"]
abbrev s_Tree_write : Stmt := inClass (top 61) 1
abbrev d_Tree_write : He.DefD := ⟨("Tree", some "write"), "write", "Tree.write", defArgs s_Tree_write, defBody s_Tree_write, defScope s_Tree_write, [], []⟩
abbrev N_Tree_write : List Str := ["self", "path", "text", "by"]
abbrev P_Tree_write : List Str := ["self", "path", "text", "by"]
abbrev s_Tree_link : Stmt := inClass (top 61) 2
abbrev d_Tree_link : He.DefD := ⟨("Tree", some "link"), "link", "Tree.link", defArgs s_Tree_link, defBody s_Tree_link, defScope s_Tree_link, [], []⟩
abbrev N_Tree_link : List Str := ["self", "path", "target"]
abbrev P_Tree_link : List Str := ["self", "path", "target"]
abbrev s_Tree_is_personal : Stmt := inClass (top 61) 3
abbrev d_Tree_is_personal : He.DefD := ⟨("Tree", some "is_personal"), "is_personal", "Tree.is_personal", defArgs s_Tree_is_personal, defBody s_Tree_is_personal, defScope s_Tree_is_personal, [], []⟩
abbrev N_Tree_is_personal : List Str := ["self", "path"]
abbrev P_Tree_is_personal : List Str := ["self", "path"]
abbrev s_Tree_check_room : Stmt := inClass (top 61) 4
abbrev d_Tree_check_room : He.DefD := ⟨("Tree", some "check_room"), "check_room", "Tree.check_room", defArgs s_Tree_check_room, defBody s_Tree_check_room, defScope s_Tree_check_room, [], []⟩
abbrev N_Tree_check_room : List Str := ["self", "path", "other"]
abbrev P_Tree_check_room : List Str := ["self", "path"]
abbrev s_Tree_kind : Stmt := inClass (top 61) 6
abbrev d_Tree_kind : He.DefD := ⟨("Tree", some "kind"), "kind", "Tree.kind", defArgs s_Tree_kind, defBody s_Tree_kind, defScope s_Tree_kind, [], []⟩
abbrev N_Tree_kind : List Str := ["self", "path", "entry"]
abbrev P_Tree_kind : List Str := ["self", "path"]
abbrev s_Tree_read : Stmt := inClass (top 61) 7
abbrev d_Tree_read : He.DefD := ⟨("Tree", some "read"), "read", "Tree.read", defArgs s_Tree_read, defBody s_Tree_read, defScope s_Tree_read, [], []⟩
abbrev N_Tree_read : List Str := ["self", "path", "entry"]
abbrev P_Tree_read : List Str := ["self", "path"]
abbrev s_Tree_writer : Stmt := inClass (top 61) 8
abbrev d_Tree_writer : He.DefD := ⟨("Tree", some "writer"), "writer", "Tree.writer", defArgs s_Tree_writer, defBody s_Tree_writer, defScope s_Tree_writer, [], []⟩
abbrev N_Tree_writer : List Str := ["self", "path", "entry"]
abbrev P_Tree_writer : List Str := ["self", "path"]
abbrev s_Tree_target : Stmt := inClass (top 61) 9
abbrev d_Tree_target : He.DefD := ⟨("Tree", some "target"), "target", "Tree.target", defArgs s_Tree_target, defBody s_Tree_target, defScope s_Tree_target, [], []⟩
abbrev N_Tree_target : List Str := ["self", "path", "entry"]
abbrev P_Tree_target : List Str := ["self", "path"]
abbrev s_Tree_resolve : Stmt := inClass (top 61) 10
abbrev d_Tree_resolve : He.DefD := ⟨("Tree", some "resolve"), "resolve", "Tree.resolve", defArgs s_Tree_resolve, defBody s_Tree_resolve, defScope s_Tree_resolve, [], []⟩
abbrev N_Tree_resolve : List Str := ["self", "path", "present", "_", "following"]
abbrev P_Tree_resolve : List Str := ["self", "path"]
abbrev s_Tree_twin : Stmt := inClass (top 61) 12
abbrev d_Tree_twin : He.DefD := ⟨("Tree", some "twin"), "twin", "Tree.twin", defArgs s_Tree_twin, defBody s_Tree_twin, defScope s_Tree_twin, [], []⟩
abbrev N_Tree_twin : List Str := ["self", "tree"]
abbrev P_Tree_twin : List Str := ["self"]
abbrev s_law_cell : Stmt := top 63
abbrev d_law_cell : He.DefD := ⟨("_law_cell", none), "_law_cell", "_law_cell", defArgs s_law_cell, defBody s_law_cell, defScope s_law_cell, [], []⟩
abbrev N_law_cell : List Str := ["_law_script", "_law_k"]
abbrev P_law_cell : List Str := ["_law_script", "_law_k"]
abbrev s_law_draws : Stmt := top 64
abbrev d_law_draws : He.DefD := ⟨("_law_draws", none), "_law_draws", "_law_draws", defArgs s_law_draws, defBody s_law_draws, defScope s_law_draws, [], []⟩
abbrev N_law_draws : List Str := ["_law_cell_here", "_law_many", "_law_limit", "_law_draws_here", "_law_rest", "_law_k", "_law_mixed"]
abbrev P_law_draws : List Str := ["_law_cell_here", "_law_many", "_law_limit"]
abbrev s_law_take : Stmt := top 65
abbrev d_law_take : He.DefD := ⟨("_law_take", none), "_law_take", "_law_take", defArgs s_law_take, defBody s_law_take, defScope s_law_take, [], []⟩
abbrev N_law_take : List Str := ["_law_numbers", "_law_limit"]
abbrev P_law_take : List Str := ["_law_numbers", "_law_limit"]
abbrev s_law_term : Stmt := top 66
abbrev d_law_term : He.DefD := ⟨("_law_term", none), "_law_term", "_law_term", defArgs s_law_term, defBody s_law_term, defScope s_law_term, [], []⟩
abbrev N_law_term : List Str := ["_law_numbers", "_law_known", "_law_depth", "_law_kind", "_law_text", "_law_name", "_law_function", "_law_first", "_law_second"]
abbrev P_law_term : List Str := ["_law_numbers", "_law_known", "_law_depth"]
abbrev s_law_expression : Stmt := top 67
abbrev d_law_expression : He.DefD := ⟨("_law_expression", none), "_law_expression", "_law_expression", defArgs s_law_expression, defBody s_law_expression, defScope s_law_expression, [], []⟩
abbrev N_law_expression : List Str := ["_law_numbers", "_law_known", "_law_depth", "_law_first", "_law_second"]
abbrev P_law_expression : List Str := ["_law_numbers", "_law_known", "_law_depth"]
abbrev s_law_block : Stmt := top 68
abbrev d_law_block : He.DefD := ⟨("_law_block", none), "_law_block", "_law_block", defArgs s_law_block, defBody s_law_block, defScope s_law_block, [], []⟩
abbrev N_law_block : List Str := ["_law_numbers", "_law_known", "_law_depth", "_law_outputs", "_law_left", "_law_names", "_law_body", "_law_lines", "_law_k", "_law_found"]
abbrev P_law_block : List Str := ["_law_numbers", "_law_known", "_law_depth", "_law_outputs", "_law_left"]
abbrev s_law_statement : Stmt := top 69
abbrev d_law_statement : He.DefD := ⟨("_law_statement", none), "_law_statement", "_law_statement", defArgs s_law_statement, defBody s_law_statement, defScope s_law_statement, [], []⟩
abbrev N_law_statement : List Str := ["_law_numbers", "_law_names", "_law_depth", "_law_outputs", "_law_left", "_law_kind", "_law_space", "_law_number", "_law_found", "_law_name", "_law_inner", "_law_other", "_law_lines"]
abbrev P_law_statement : List Str := ["_law_numbers", "_law_names", "_law_depth", "_law_outputs", "_law_left"]
abbrev s_law_rule : Stmt := top 70
abbrev d_law_rule : He.DefD := ⟨("_law_rule", none), "_law_rule", "_law_rule", defArgs s_law_rule, defBody s_law_rule, defScope s_law_rule, [], []⟩
abbrev N_law_rule : List Str := ["_law_numbers", "_law_k", "_law_pattern", "_law_outputs", "_law_inputs", "_law_j", "_law_sealed", "_law_found", "_law_words", "_law_text"]
abbrev P_law_rule : List Str := ["_law_numbers", "_law_k"]
abbrev s_law_is_rule : Stmt := top 71
abbrev d_law_is_rule : He.DefD := ⟨("_law_is_rule", none), "_law_is_rule", "_law_is_rule", defArgs s_law_is_rule, defBody s_law_is_rule, defScope s_law_is_rule, [], []⟩
abbrev N_law_is_rule : List Str := ["_law_actual", "_law_due"]
abbrev P_law_is_rule : List Str := ["_law_actual", "_law_due"]
abbrev s_law : Stmt := top 72
abbrev d_law : He.DefD := ⟨("law", none), "law", "law", defArgs s_law, defBody s_law, defScope s_law, [], []⟩
abbrev N_law : List Str := ["_law_script", "_law_first", "_law_numbers", "_law_count", "_law_files", "_law_texts", "_law_rules", "_law_settings", "_law_k", "_law_which", "_law_found", "_law_line", "_law_tree", "_law_due", "_law_order", "_law_place", "_law_before", "_law_book", "_law_cell_here", "_law_name"]
abbrev P_law : List Str := ["_law_script"]
def fn : List He.DefD := [d_is_identifier, d_is_skipped, d_scan_string, d_word_end, d_scan_line, d_Line___init__, d_Line_need, d_Line_finish, d_Line_word, d_Line_identifier, d_is_sign, d_parse_expression, d_parse_terms, d_parse_term, d_parse_call, d_BodyReader___init__, d_BodyReader_next_line, d_BodyReader_read_block, d_BodyReader_read_statement, d_BodyReader_read_put, d_BodyReader_read_if, d_BodyReader_read_each, d_read_expression, d_is_name, d_is_path, d_is_pattern, d_Rule___init__, d_Rule___eq__, d_Rule_is_pattern, d_Book___init__, d_recipe_text, d_BookReader___init__, d_BookReader_read_file, d_BookReader_read_line, d_BookReader_read_setting, d_BookReader_read_use, d_BookReader_is_output, d_BookReader_read_outputs, d_BookReader_check_output, d_read_inputs, d_parse_book, d_is_text_code, d_is_text, d_is_content, d_Tree___init__, d_Tree_write, d_Tree_link, d_Tree_is_personal, d_Tree_check_room, d_Tree_kind, d_Tree_read, d_Tree_writer, d_Tree_target, d_Tree_resolve, d_Tree_twin, d_law_cell, d_law_draws, d_law_take, d_law_term, d_law_expression, d_law_block, d_law_statement, d_law_rule, d_law_is_rule, d_law]
def fa : List He.Fa := [.glo "is_identifier",
  .glo "is_skipped",
  .glo "scan_string",
  .glo "word_end",
  .glo "scan_line",
  .glo "is_sign",
  .glo "parse_expression",
  .glo "parse_terms",
  .glo "parse_term",
  .glo "parse_call",
  .glo "read_expression",
  .glo "is_name",
  .glo "is_path",
  .glo "is_pattern",
  .glo "recipe_text",
  .glo "read_inputs",
  .glo "parse_book",
  .glo "is_text_code",
  .glo "is_text",
  .glo "is_content",
  .glo "_law_cell",
  .glo "_law_draws",
  .glo "_law_take",
  .glo "_law_term",
  .glo "_law_expression",
  .glo "_law_block",
  .glo "_law_statement",
  .glo "_law_rule",
  .glo "_law_is_rule",
  .glo "law",
  .glo "is_pattern_paths",
  .glo "STATEMENTS",
  .glo "ESCAPES",
  .glo "ARGUMENTS",
  .glo "Line",
  .cls "Line",
  .keep "Line",
  .mkr "Line",
  .noat "Line" "path",
  .noat "Line" "number",
  .noat "Line" "tokens",
  .noat "Line" "end_column",
  .glo "BodyReader",
  .cls "BodyReader",
  .keep "BodyReader",
  .mkr "BodyReader",
  .noat "BodyReader" "path",
  .noat "BodyReader" "lines",
  .noat "BodyReader" "at",
  .noat "BodyReader" "output_count",
  .noat "BodyReader" "statement_count",
  .glo "Rule",
  .cls "Rule",
  .keep "Rule",
  .mkr "Rule",
  .noat "Rule" "outputs",
  .noat "Rule" "inputs",
  .noat "Rule" "sealed",
  .noat "Rule" "body",
  .glo "Book",
  .cls "Book",
  .keep "Book",
  .mkr "Book",
  .noat "Book" "settings",
  .noat "Book" "rules",
  .noat "Book" "files",
  .glo "BookReader",
  .cls "BookReader",
  .keep "BookReader",
  .mkr "BookReader",
  .noat "BookReader" "tree",
  .noat "BookReader" "book",
  .glo "Tree",
  .cls "Tree",
  .keep "Tree",
  .mkr "Tree",
  .noat "Tree" "entries",
  .meth "Line" "need",
  .meth "Line" "finish",
  .meth "Line" "word",
  .meth "Line" "identifier",
  .meth "BodyReader" "next_line",
  .meth "BodyReader" "read_block",
  .meth "BodyReader" "read_statement",
  .meth "BodyReader" "read_put",
  .meth "BodyReader" "read_if",
  .meth "BodyReader" "read_each",
  .meth "Rule" "__eq__",
  .meth "Rule" "is_pattern",
  .meth "BookReader" "read_file",
  .meth "BookReader" "read_line",
  .meth "BookReader" "read_setting",
  .meth "BookReader" "read_use",
  .meth "BookReader" "is_output",
  .meth "BookReader" "read_outputs",
  .meth "BookReader" "check_output",
  .meth "Tree" "write",
  .meth "Tree" "link",
  .meth "Tree" "is_personal",
  .meth "Tree" "check_room",
  .meth "Tree" "kind",
  .meth "Tree" "read",
  .meth "Tree" "writer",
  .meth "Tree" "target",
  .meth "Tree" "resolve",
  .meth "Tree" "twin",
  .int "IDENTIFIER_LIMIT" 12,
  .int "CALL_LIMIT" 6,
  .int "STATEMENT_LIMIT" 40,
  .int "BLOCK_LIMIT" 4,
  .int "NAME_LIMIT" 12,
  .int "PATH_LIMIT" 4,
  .int "FILE_LIMIT" 8,
  .int "RULE_LIMIT" 24,
  .int "OUTPUT_LIMIT" 3,
  .int "INPUT_LIMIT" 6,
  .int "CONTENT_LIMIT" 400,
  .int "ENTRY_LIMIT" 60,
  .int "LINK_LIMIT" 8,
  .str "SIGNS" "(),+",
  .str "LETTERS" "abcdefghijklmnopqrstuvwxyz",
  .str "NAME_CHARACTERS" "abcdefghijklmnopqrstuvwxyz0123456789_.",
  .str "FIRST_FILE" "rules",
  .free "len",
  .free "all",
  .free "any",
  .free "int",
  .free "str",
  .free "abs",
  .free "range",
  .free "tuple",
  .free "list",
  .free "dict",
  .free "ord",
  .free "isinstance",
  .free "bool"]
def ts : List He.Tab := [(fun K => He.ga K "ESCAPES", ["n", "\"", "\\"]), (fun K => He.ga K "ARGUMENTS", ["read", "has", "list", "setting", "same", "not", "upper", "count", "sort", "first", "rest", "join", "swap"])]
def escV : List (Str × He.Dv) := [("n", .str "\n"), ("\"", .str "\""), ("\\", .str "\\")]
def argV : List (Str × He.Dv) := [("read", .int 1), ("has", .int 1), ("list", .int 2), ("setting", .int 1), ("same", .int 2), ("not", .int 1), ("upper", .int 1), ("count", .int 1), ("sort", .int 1), ("first", .int 1), ("rest", .int 1), ("join", .int 2), ("swap", .int 3)]
def ex (K : PySem.W.Frag) : Bool := decide (He.ga K "is_pattern_paths" = He.ga K "is_pattern") && (He.tupB K "STATEMENTS" [.str "let", .str "put", .str "if", .str "each", .str "fail"] && (He.valsB K (He.ga K "ESCAPES") escV && He.valsB K (He.ga K "ARGUMENTS") argV))
/-- what isinstance asks of an own class -/
def insB (K : PySem.W.Frag) (x : Str) : Bool := He.eqO (PySem.W.findIn K (.ref (He.ga K x)) "__class__") (some (some (.builtin "object.__class__"))) && (He.eqO (PySem.W.specialIn K (.builtin "object.__class__") "__get__") (some (some (.builtin "getset_descriptor.__get__"))) && (decide (PySem.W.takesIn K (.builtin "object.__class__") = some true) && decide (PySem.W.mroIn K (He.ga K x) (.type "object") = some true)))
def exI (K : PySem.W.Frag) : Bool := insB K "Rule" && insB K "Book"
def exH (K : PySem.W.Frag) : Bool := exI K && ex K
/-- what the head tells, for the walk -/
structure Tp (w : World) (K : PySem.W.Frag) (mg : Str → Option Value) (φ : Str × Option Str → FuncData) : Prop where
  hp : ∃ h : Heap, K.In h ∧ h.Ns mainGlobals mg
  fact : ∀ (i : Nat) (f : He.Fa), fa[i]? = some f → f.ok K = true
  fn : ∀ (i : Nat) (d : He.DefD), Ky.fn[i]? = some d → FunD K d.name d.qual d.params d.body d.scope (d.dvs K) (d.kws K) (He.fAd K d.at_) (φ d.at_)
  tab : ∀ (i : Nat) (t : He.Tab), ts[i]? = some t → ∃ es n, KDict K w (t.1 K) es n
  more : ex K = true
  more2 : exI K = true
section
variable {w : World} {K : PySem.W.Frag} {mg : Str → Option Value} {φ : Str × Option Str → FuncData}
namespace Tp
theorem g_is_identifier (T : Tp w K mg φ) : mg "is_identifier" = some (.ref (He.ga K "is_identifier")) := by
  obtain ⟨_, X, G⟩ := T.hp
  exact He.glo_ok X G (T.fact 0 (.glo "is_identifier") rfl)
theorem g_is_skipped (T : Tp w K mg φ) : mg "is_skipped" = some (.ref (He.ga K "is_skipped")) := by
  obtain ⟨_, X, G⟩ := T.hp
  exact He.glo_ok X G (T.fact 1 (.glo "is_skipped") rfl)
theorem g_scan_string (T : Tp w K mg φ) : mg "scan_string" = some (.ref (He.ga K "scan_string")) := by
  obtain ⟨_, X, G⟩ := T.hp
  exact He.glo_ok X G (T.fact 2 (.glo "scan_string") rfl)
theorem g_word_end (T : Tp w K mg φ) : mg "word_end" = some (.ref (He.ga K "word_end")) := by
  obtain ⟨_, X, G⟩ := T.hp
  exact He.glo_ok X G (T.fact 3 (.glo "word_end") rfl)
theorem g_scan_line (T : Tp w K mg φ) : mg "scan_line" = some (.ref (He.ga K "scan_line")) := by
  obtain ⟨_, X, G⟩ := T.hp
  exact He.glo_ok X G (T.fact 4 (.glo "scan_line") rfl)
theorem g_is_sign (T : Tp w K mg φ) : mg "is_sign" = some (.ref (He.ga K "is_sign")) := by
  obtain ⟨_, X, G⟩ := T.hp
  exact He.glo_ok X G (T.fact 5 (.glo "is_sign") rfl)
theorem g_parse_expression (T : Tp w K mg φ) : mg "parse_expression" = some (.ref (He.ga K "parse_expression")) := by
  obtain ⟨_, X, G⟩ := T.hp
  exact He.glo_ok X G (T.fact 6 (.glo "parse_expression") rfl)
theorem g_parse_terms (T : Tp w K mg φ) : mg "parse_terms" = some (.ref (He.ga K "parse_terms")) := by
  obtain ⟨_, X, G⟩ := T.hp
  exact He.glo_ok X G (T.fact 7 (.glo "parse_terms") rfl)
theorem g_parse_term (T : Tp w K mg φ) : mg "parse_term" = some (.ref (He.ga K "parse_term")) := by
  obtain ⟨_, X, G⟩ := T.hp
  exact He.glo_ok X G (T.fact 8 (.glo "parse_term") rfl)
theorem g_parse_call (T : Tp w K mg φ) : mg "parse_call" = some (.ref (He.ga K "parse_call")) := by
  obtain ⟨_, X, G⟩ := T.hp
  exact He.glo_ok X G (T.fact 9 (.glo "parse_call") rfl)
theorem g_read_expression (T : Tp w K mg φ) : mg "read_expression" = some (.ref (He.ga K "read_expression")) := by
  obtain ⟨_, X, G⟩ := T.hp
  exact He.glo_ok X G (T.fact 10 (.glo "read_expression") rfl)
theorem g_is_name (T : Tp w K mg φ) : mg "is_name" = some (.ref (He.ga K "is_name")) := by
  obtain ⟨_, X, G⟩ := T.hp
  exact He.glo_ok X G (T.fact 11 (.glo "is_name") rfl)
theorem g_is_path (T : Tp w K mg φ) : mg "is_path" = some (.ref (He.ga K "is_path")) := by
  obtain ⟨_, X, G⟩ := T.hp
  exact He.glo_ok X G (T.fact 12 (.glo "is_path") rfl)
theorem g_is_pattern (T : Tp w K mg φ) : mg "is_pattern" = some (.ref (He.ga K "is_pattern")) := by
  obtain ⟨_, X, G⟩ := T.hp
  exact He.glo_ok X G (T.fact 13 (.glo "is_pattern") rfl)
theorem g_recipe_text (T : Tp w K mg φ) : mg "recipe_text" = some (.ref (He.ga K "recipe_text")) := by
  obtain ⟨_, X, G⟩ := T.hp
  exact He.glo_ok X G (T.fact 14 (.glo "recipe_text") rfl)
theorem g_read_inputs (T : Tp w K mg φ) : mg "read_inputs" = some (.ref (He.ga K "read_inputs")) := by
  obtain ⟨_, X, G⟩ := T.hp
  exact He.glo_ok X G (T.fact 15 (.glo "read_inputs") rfl)
theorem g_parse_book (T : Tp w K mg φ) : mg "parse_book" = some (.ref (He.ga K "parse_book")) := by
  obtain ⟨_, X, G⟩ := T.hp
  exact He.glo_ok X G (T.fact 16 (.glo "parse_book") rfl)
theorem g_is_text_code (T : Tp w K mg φ) : mg "is_text_code" = some (.ref (He.ga K "is_text_code")) := by
  obtain ⟨_, X, G⟩ := T.hp
  exact He.glo_ok X G (T.fact 17 (.glo "is_text_code") rfl)
theorem g_is_text (T : Tp w K mg φ) : mg "is_text" = some (.ref (He.ga K "is_text")) := by
  obtain ⟨_, X, G⟩ := T.hp
  exact He.glo_ok X G (T.fact 18 (.glo "is_text") rfl)
theorem g_is_content (T : Tp w K mg φ) : mg "is_content" = some (.ref (He.ga K "is_content")) := by
  obtain ⟨_, X, G⟩ := T.hp
  exact He.glo_ok X G (T.fact 19 (.glo "is_content") rfl)
theorem g_law_cell (T : Tp w K mg φ) : mg "_law_cell" = some (.ref (He.ga K "_law_cell")) := by
  obtain ⟨_, X, G⟩ := T.hp
  exact He.glo_ok X G (T.fact 20 (.glo "_law_cell") rfl)
theorem g_law_draws (T : Tp w K mg φ) : mg "_law_draws" = some (.ref (He.ga K "_law_draws")) := by
  obtain ⟨_, X, G⟩ := T.hp
  exact He.glo_ok X G (T.fact 21 (.glo "_law_draws") rfl)
theorem g_law_take (T : Tp w K mg φ) : mg "_law_take" = some (.ref (He.ga K "_law_take")) := by
  obtain ⟨_, X, G⟩ := T.hp
  exact He.glo_ok X G (T.fact 22 (.glo "_law_take") rfl)
theorem g_law_term (T : Tp w K mg φ) : mg "_law_term" = some (.ref (He.ga K "_law_term")) := by
  obtain ⟨_, X, G⟩ := T.hp
  exact He.glo_ok X G (T.fact 23 (.glo "_law_term") rfl)
theorem g_law_expression (T : Tp w K mg φ) : mg "_law_expression" = some (.ref (He.ga K "_law_expression")) := by
  obtain ⟨_, X, G⟩ := T.hp
  exact He.glo_ok X G (T.fact 24 (.glo "_law_expression") rfl)
theorem g_law_block (T : Tp w K mg φ) : mg "_law_block" = some (.ref (He.ga K "_law_block")) := by
  obtain ⟨_, X, G⟩ := T.hp
  exact He.glo_ok X G (T.fact 25 (.glo "_law_block") rfl)
theorem g_law_statement (T : Tp w K mg φ) : mg "_law_statement" = some (.ref (He.ga K "_law_statement")) := by
  obtain ⟨_, X, G⟩ := T.hp
  exact He.glo_ok X G (T.fact 26 (.glo "_law_statement") rfl)
theorem g_law_rule (T : Tp w K mg φ) : mg "_law_rule" = some (.ref (He.ga K "_law_rule")) := by
  obtain ⟨_, X, G⟩ := T.hp
  exact He.glo_ok X G (T.fact 27 (.glo "_law_rule") rfl)
theorem g_law_is_rule (T : Tp w K mg φ) : mg "_law_is_rule" = some (.ref (He.ga K "_law_is_rule")) := by
  obtain ⟨_, X, G⟩ := T.hp
  exact He.glo_ok X G (T.fact 28 (.glo "_law_is_rule") rfl)
theorem g_law (T : Tp w K mg φ) : mg "law" = some (.ref (He.ga K "law")) := by
  obtain ⟨_, X, G⟩ := T.hp
  exact He.glo_ok X G (T.fact 29 (.glo "law") rfl)
theorem g_is_pattern_paths_ (T : Tp w K mg φ) : mg "is_pattern_paths" = some (.ref (He.ga K "is_pattern_paths")) := by
  obtain ⟨_, X, G⟩ := T.hp
  exact He.glo_ok X G (T.fact 30 (.glo "is_pattern_paths") rfl)
theorem g_STATEMENTS (T : Tp w K mg φ) : mg "STATEMENTS" = some (.ref (He.ga K "STATEMENTS")) := by
  obtain ⟨_, X, G⟩ := T.hp
  exact He.glo_ok X G (T.fact 31 (.glo "STATEMENTS") rfl)
theorem g_ESCAPES (T : Tp w K mg φ) : mg "ESCAPES" = some (.ref (He.ga K "ESCAPES")) := by
  obtain ⟨_, X, G⟩ := T.hp
  exact He.glo_ok X G (T.fact 32 (.glo "ESCAPES") rfl)
theorem g_ARGUMENTS (T : Tp w K mg φ) : mg "ARGUMENTS" = some (.ref (He.ga K "ARGUMENTS")) := by
  obtain ⟨_, X, G⟩ := T.hp
  exact He.glo_ok X G (T.fact 33 (.glo "ARGUMENTS") rfl)
theorem g_Line (T : Tp w K mg φ) : mg "Line" = some (.ref (He.ga K "Line")) := by
  obtain ⟨_, X, G⟩ := T.hp
  exact He.glo_ok X G (T.fact 34 (.glo "Line") rfl)
theorem c_Line (T : Tp w K mg φ) : Cls K (He.ga K "Line") := He.cls_ok (T.fact 35 (.cls "Line") rfl)
theorem k_Line (T : Tp w K mg φ) : PySem.W.keepIn K (.ref (He.ga K "Line")) = true := He.keep_ok (T.fact 36 (.keep "Line") rfl)
theorem mk_Line (T : Tp w K mg φ) : Mk K (He.ga K "Line") (He.ma K (He.ga K "Line") "__init__") := He.mkr_ok (T.fact 37 (.mkr "Line") rfl)
theorem n_Line_path (T : Tp w K mg φ) : NoAttr K (He.ga K "Line") "path" := He.noat_ok (T.fact 38 (.noat "Line" "path") rfl)
theorem n_Line_number (T : Tp w K mg φ) : NoAttr K (He.ga K "Line") "number" := He.noat_ok (T.fact 39 (.noat "Line" "number") rfl)
theorem n_Line_tokens (T : Tp w K mg φ) : NoAttr K (He.ga K "Line") "tokens" := He.noat_ok (T.fact 40 (.noat "Line" "tokens") rfl)
theorem n_Line_end_column (T : Tp w K mg φ) : NoAttr K (He.ga K "Line") "end_column" := He.noat_ok (T.fact 41 (.noat "Line" "end_column") rfl)
theorem g_BodyReader (T : Tp w K mg φ) : mg "BodyReader" = some (.ref (He.ga K "BodyReader")) := by
  obtain ⟨_, X, G⟩ := T.hp
  exact He.glo_ok X G (T.fact 42 (.glo "BodyReader") rfl)
theorem c_BodyReader (T : Tp w K mg φ) : Cls K (He.ga K "BodyReader") := He.cls_ok (T.fact 43 (.cls "BodyReader") rfl)
theorem k_BodyReader (T : Tp w K mg φ) : PySem.W.keepIn K (.ref (He.ga K "BodyReader")) = true := He.keep_ok (T.fact 44 (.keep "BodyReader") rfl)
theorem mk_BodyReader (T : Tp w K mg φ) : Mk K (He.ga K "BodyReader") (He.ma K (He.ga K "BodyReader") "__init__") := He.mkr_ok (T.fact 45 (.mkr "BodyReader") rfl)
theorem n_BodyReader_path (T : Tp w K mg φ) : NoAttr K (He.ga K "BodyReader") "path" := He.noat_ok (T.fact 46 (.noat "BodyReader" "path") rfl)
theorem n_BodyReader_lines (T : Tp w K mg φ) : NoAttr K (He.ga K "BodyReader") "lines" := He.noat_ok (T.fact 47 (.noat "BodyReader" "lines") rfl)
theorem n_BodyReader_at (T : Tp w K mg φ) : NoAttr K (He.ga K "BodyReader") "at" := He.noat_ok (T.fact 48 (.noat "BodyReader" "at") rfl)
theorem n_BodyReader_output_count (T : Tp w K mg φ) : NoAttr K (He.ga K "BodyReader") "output_count" := He.noat_ok (T.fact 49 (.noat "BodyReader" "output_count") rfl)
theorem n_BodyReader_statement_count (T : Tp w K mg φ) : NoAttr K (He.ga K "BodyReader") "statement_count" := He.noat_ok (T.fact 50 (.noat "BodyReader" "statement_count") rfl)
theorem g_Rule (T : Tp w K mg φ) : mg "Rule" = some (.ref (He.ga K "Rule")) := by
  obtain ⟨_, X, G⟩ := T.hp
  exact He.glo_ok X G (T.fact 51 (.glo "Rule") rfl)
theorem c_Rule (T : Tp w K mg φ) : Cls K (He.ga K "Rule") := He.cls_ok (T.fact 52 (.cls "Rule") rfl)
theorem k_Rule (T : Tp w K mg φ) : PySem.W.keepIn K (.ref (He.ga K "Rule")) = true := He.keep_ok (T.fact 53 (.keep "Rule") rfl)
theorem mk_Rule (T : Tp w K mg φ) : Mk K (He.ga K "Rule") (He.ma K (He.ga K "Rule") "__init__") := He.mkr_ok (T.fact 54 (.mkr "Rule") rfl)
theorem n_Rule_outputs (T : Tp w K mg φ) : NoAttr K (He.ga K "Rule") "outputs" := He.noat_ok (T.fact 55 (.noat "Rule" "outputs") rfl)
theorem n_Rule_inputs (T : Tp w K mg φ) : NoAttr K (He.ga K "Rule") "inputs" := He.noat_ok (T.fact 56 (.noat "Rule" "inputs") rfl)
theorem n_Rule_sealed (T : Tp w K mg φ) : NoAttr K (He.ga K "Rule") "sealed" := He.noat_ok (T.fact 57 (.noat "Rule" "sealed") rfl)
theorem n_Rule_body (T : Tp w K mg φ) : NoAttr K (He.ga K "Rule") "body" := He.noat_ok (T.fact 58 (.noat "Rule" "body") rfl)
theorem g_Book (T : Tp w K mg φ) : mg "Book" = some (.ref (He.ga K "Book")) := by
  obtain ⟨_, X, G⟩ := T.hp
  exact He.glo_ok X G (T.fact 59 (.glo "Book") rfl)
theorem c_Book (T : Tp w K mg φ) : Cls K (He.ga K "Book") := He.cls_ok (T.fact 60 (.cls "Book") rfl)
theorem k_Book (T : Tp w K mg φ) : PySem.W.keepIn K (.ref (He.ga K "Book")) = true := He.keep_ok (T.fact 61 (.keep "Book") rfl)
theorem mk_Book (T : Tp w K mg φ) : Mk K (He.ga K "Book") (He.ma K (He.ga K "Book") "__init__") := He.mkr_ok (T.fact 62 (.mkr "Book") rfl)
theorem n_Book_settings (T : Tp w K mg φ) : NoAttr K (He.ga K "Book") "settings" := He.noat_ok (T.fact 63 (.noat "Book" "settings") rfl)
theorem n_Book_rules (T : Tp w K mg φ) : NoAttr K (He.ga K "Book") "rules" := He.noat_ok (T.fact 64 (.noat "Book" "rules") rfl)
theorem n_Book_files (T : Tp w K mg φ) : NoAttr K (He.ga K "Book") "files" := He.noat_ok (T.fact 65 (.noat "Book" "files") rfl)
theorem g_BookReader (T : Tp w K mg φ) : mg "BookReader" = some (.ref (He.ga K "BookReader")) := by
  obtain ⟨_, X, G⟩ := T.hp
  exact He.glo_ok X G (T.fact 66 (.glo "BookReader") rfl)
theorem c_BookReader (T : Tp w K mg φ) : Cls K (He.ga K "BookReader") := He.cls_ok (T.fact 67 (.cls "BookReader") rfl)
theorem k_BookReader (T : Tp w K mg φ) : PySem.W.keepIn K (.ref (He.ga K "BookReader")) = true := He.keep_ok (T.fact 68 (.keep "BookReader") rfl)
theorem mk_BookReader (T : Tp w K mg φ) : Mk K (He.ga K "BookReader") (He.ma K (He.ga K "BookReader") "__init__") := He.mkr_ok (T.fact 69 (.mkr "BookReader") rfl)
theorem n_BookReader_tree (T : Tp w K mg φ) : NoAttr K (He.ga K "BookReader") "tree" := He.noat_ok (T.fact 70 (.noat "BookReader" "tree") rfl)
theorem n_BookReader_book (T : Tp w K mg φ) : NoAttr K (He.ga K "BookReader") "book" := He.noat_ok (T.fact 71 (.noat "BookReader" "book") rfl)
theorem g_Tree (T : Tp w K mg φ) : mg "Tree" = some (.ref (He.ga K "Tree")) := by
  obtain ⟨_, X, G⟩ := T.hp
  exact He.glo_ok X G (T.fact 72 (.glo "Tree") rfl)
theorem c_Tree (T : Tp w K mg φ) : Cls K (He.ga K "Tree") := He.cls_ok (T.fact 73 (.cls "Tree") rfl)
theorem k_Tree (T : Tp w K mg φ) : PySem.W.keepIn K (.ref (He.ga K "Tree")) = true := He.keep_ok (T.fact 74 (.keep "Tree") rfl)
theorem mk_Tree (T : Tp w K mg φ) : Mk K (He.ga K "Tree") (He.ma K (He.ga K "Tree") "__init__") := He.mkr_ok (T.fact 75 (.mkr "Tree") rfl)
theorem n_Tree_entries (T : Tp w K mg φ) : NoAttr K (He.ga K "Tree") "entries" := He.noat_ok (T.fact 76 (.noat "Tree" "entries") rfl)
theorem m_Line_need (T : Tp w K mg φ) : Meth K (He.ga K "Line") "need" (He.ma K (He.ga K "Line") "need") := He.meth_ok (T.fact 77 (.meth "Line" "need") rfl)
theorem m_Line_finish (T : Tp w K mg φ) : Meth K (He.ga K "Line") "finish" (He.ma K (He.ga K "Line") "finish") := He.meth_ok (T.fact 78 (.meth "Line" "finish") rfl)
theorem m_Line_word (T : Tp w K mg φ) : Meth K (He.ga K "Line") "word" (He.ma K (He.ga K "Line") "word") := He.meth_ok (T.fact 79 (.meth "Line" "word") rfl)
theorem m_Line_identifier (T : Tp w K mg φ) : Meth K (He.ga K "Line") "identifier" (He.ma K (He.ga K "Line") "identifier") := He.meth_ok (T.fact 80 (.meth "Line" "identifier") rfl)
theorem m_BodyReader_next_line (T : Tp w K mg φ) : Meth K (He.ga K "BodyReader") "next_line" (He.ma K (He.ga K "BodyReader") "next_line") := He.meth_ok (T.fact 81 (.meth "BodyReader" "next_line") rfl)
theorem m_BodyReader_read_block (T : Tp w K mg φ) : Meth K (He.ga K "BodyReader") "read_block" (He.ma K (He.ga K "BodyReader") "read_block") := He.meth_ok (T.fact 82 (.meth "BodyReader" "read_block") rfl)
theorem m_BodyReader_read_statement (T : Tp w K mg φ) : Meth K (He.ga K "BodyReader") "read_statement" (He.ma K (He.ga K "BodyReader") "read_statement") := He.meth_ok (T.fact 83 (.meth "BodyReader" "read_statement") rfl)
theorem m_BodyReader_read_put (T : Tp w K mg φ) : Meth K (He.ga K "BodyReader") "read_put" (He.ma K (He.ga K "BodyReader") "read_put") := He.meth_ok (T.fact 84 (.meth "BodyReader" "read_put") rfl)
theorem m_BodyReader_read_if (T : Tp w K mg φ) : Meth K (He.ga K "BodyReader") "read_if" (He.ma K (He.ga K "BodyReader") "read_if") := He.meth_ok (T.fact 85 (.meth "BodyReader" "read_if") rfl)
theorem m_BodyReader_read_each (T : Tp w K mg φ) : Meth K (He.ga K "BodyReader") "read_each" (He.ma K (He.ga K "BodyReader") "read_each") := He.meth_ok (T.fact 86 (.meth "BodyReader" "read_each") rfl)
theorem m_Rule___eq__ (T : Tp w K mg φ) : Meth K (He.ga K "Rule") "__eq__" (He.ma K (He.ga K "Rule") "__eq__") := He.meth_ok (T.fact 87 (.meth "Rule" "__eq__") rfl)
theorem m_Rule_is_pattern (T : Tp w K mg φ) : Meth K (He.ga K "Rule") "is_pattern" (He.ma K (He.ga K "Rule") "is_pattern") := He.meth_ok (T.fact 88 (.meth "Rule" "is_pattern") rfl)
theorem m_BookReader_read_file (T : Tp w K mg φ) : Meth K (He.ga K "BookReader") "read_file" (He.ma K (He.ga K "BookReader") "read_file") := He.meth_ok (T.fact 89 (.meth "BookReader" "read_file") rfl)
theorem m_BookReader_read_line (T : Tp w K mg φ) : Meth K (He.ga K "BookReader") "read_line" (He.ma K (He.ga K "BookReader") "read_line") := He.meth_ok (T.fact 90 (.meth "BookReader" "read_line") rfl)
theorem m_BookReader_read_setting (T : Tp w K mg φ) : Meth K (He.ga K "BookReader") "read_setting" (He.ma K (He.ga K "BookReader") "read_setting") := He.meth_ok (T.fact 91 (.meth "BookReader" "read_setting") rfl)
theorem m_BookReader_read_use (T : Tp w K mg φ) : Meth K (He.ga K "BookReader") "read_use" (He.ma K (He.ga K "BookReader") "read_use") := He.meth_ok (T.fact 92 (.meth "BookReader" "read_use") rfl)
theorem m_BookReader_is_output (T : Tp w K mg φ) : Meth K (He.ga K "BookReader") "is_output" (He.ma K (He.ga K "BookReader") "is_output") := He.meth_ok (T.fact 93 (.meth "BookReader" "is_output") rfl)
theorem m_BookReader_read_outputs (T : Tp w K mg φ) : Meth K (He.ga K "BookReader") "read_outputs" (He.ma K (He.ga K "BookReader") "read_outputs") := He.meth_ok (T.fact 94 (.meth "BookReader" "read_outputs") rfl)
theorem m_BookReader_check_output (T : Tp w K mg φ) : Meth K (He.ga K "BookReader") "check_output" (He.ma K (He.ga K "BookReader") "check_output") := He.meth_ok (T.fact 95 (.meth "BookReader" "check_output") rfl)
theorem m_Tree_write (T : Tp w K mg φ) : Meth K (He.ga K "Tree") "write" (He.ma K (He.ga K "Tree") "write") := He.meth_ok (T.fact 96 (.meth "Tree" "write") rfl)
theorem m_Tree_link (T : Tp w K mg φ) : Meth K (He.ga K "Tree") "link" (He.ma K (He.ga K "Tree") "link") := He.meth_ok (T.fact 97 (.meth "Tree" "link") rfl)
theorem m_Tree_is_personal (T : Tp w K mg φ) : Meth K (He.ga K "Tree") "is_personal" (He.ma K (He.ga K "Tree") "is_personal") := He.meth_ok (T.fact 98 (.meth "Tree" "is_personal") rfl)
theorem m_Tree_check_room (T : Tp w K mg φ) : Meth K (He.ga K "Tree") "check_room" (He.ma K (He.ga K "Tree") "check_room") := He.meth_ok (T.fact 99 (.meth "Tree" "check_room") rfl)
theorem m_Tree_kind (T : Tp w K mg φ) : Meth K (He.ga K "Tree") "kind" (He.ma K (He.ga K "Tree") "kind") := He.meth_ok (T.fact 100 (.meth "Tree" "kind") rfl)
theorem m_Tree_read (T : Tp w K mg φ) : Meth K (He.ga K "Tree") "read" (He.ma K (He.ga K "Tree") "read") := He.meth_ok (T.fact 101 (.meth "Tree" "read") rfl)
theorem m_Tree_writer (T : Tp w K mg φ) : Meth K (He.ga K "Tree") "writer" (He.ma K (He.ga K "Tree") "writer") := He.meth_ok (T.fact 102 (.meth "Tree" "writer") rfl)
theorem m_Tree_target (T : Tp w K mg φ) : Meth K (He.ga K "Tree") "target" (He.ma K (He.ga K "Tree") "target") := He.meth_ok (T.fact 103 (.meth "Tree" "target") rfl)
theorem m_Tree_resolve (T : Tp w K mg φ) : Meth K (He.ga K "Tree") "resolve" (He.ma K (He.ga K "Tree") "resolve") := He.meth_ok (T.fact 104 (.meth "Tree" "resolve") rfl)
theorem m_Tree_twin (T : Tp w K mg φ) : Meth K (He.ga K "Tree") "twin" (He.ma K (He.ga K "Tree") "twin") := He.meth_ok (T.fact 105 (.meth "Tree" "twin") rfl)
theorem i_IDENTIFIER_LIMIT (T : Tp w K mg φ) : ∃ t, mg "IDENTIFIER_LIMIT" = some (.int 12 t) := by
  obtain ⟨_, X, G⟩ := T.hp
  exact He.int_ok X G (T.fact 106 (.int "IDENTIFIER_LIMIT" 12) rfl)
theorem i_CALL_LIMIT (T : Tp w K mg φ) : ∃ t, mg "CALL_LIMIT" = some (.int 6 t) := by
  obtain ⟨_, X, G⟩ := T.hp
  exact He.int_ok X G (T.fact 107 (.int "CALL_LIMIT" 6) rfl)
theorem i_STATEMENT_LIMIT (T : Tp w K mg φ) : ∃ t, mg "STATEMENT_LIMIT" = some (.int 40 t) := by
  obtain ⟨_, X, G⟩ := T.hp
  exact He.int_ok X G (T.fact 108 (.int "STATEMENT_LIMIT" 40) rfl)
theorem i_BLOCK_LIMIT (T : Tp w K mg φ) : ∃ t, mg "BLOCK_LIMIT" = some (.int 4 t) := by
  obtain ⟨_, X, G⟩ := T.hp
  exact He.int_ok X G (T.fact 109 (.int "BLOCK_LIMIT" 4) rfl)
theorem i_NAME_LIMIT (T : Tp w K mg φ) : ∃ t, mg "NAME_LIMIT" = some (.int 12 t) := by
  obtain ⟨_, X, G⟩ := T.hp
  exact He.int_ok X G (T.fact 110 (.int "NAME_LIMIT" 12) rfl)
theorem i_PATH_LIMIT (T : Tp w K mg φ) : ∃ t, mg "PATH_LIMIT" = some (.int 4 t) := by
  obtain ⟨_, X, G⟩ := T.hp
  exact He.int_ok X G (T.fact 111 (.int "PATH_LIMIT" 4) rfl)
theorem i_FILE_LIMIT (T : Tp w K mg φ) : ∃ t, mg "FILE_LIMIT" = some (.int 8 t) := by
  obtain ⟨_, X, G⟩ := T.hp
  exact He.int_ok X G (T.fact 112 (.int "FILE_LIMIT" 8) rfl)
theorem i_RULE_LIMIT (T : Tp w K mg φ) : ∃ t, mg "RULE_LIMIT" = some (.int 24 t) := by
  obtain ⟨_, X, G⟩ := T.hp
  exact He.int_ok X G (T.fact 113 (.int "RULE_LIMIT" 24) rfl)
theorem i_OUTPUT_LIMIT (T : Tp w K mg φ) : ∃ t, mg "OUTPUT_LIMIT" = some (.int 3 t) := by
  obtain ⟨_, X, G⟩ := T.hp
  exact He.int_ok X G (T.fact 114 (.int "OUTPUT_LIMIT" 3) rfl)
theorem i_INPUT_LIMIT (T : Tp w K mg φ) : ∃ t, mg "INPUT_LIMIT" = some (.int 6 t) := by
  obtain ⟨_, X, G⟩ := T.hp
  exact He.int_ok X G (T.fact 115 (.int "INPUT_LIMIT" 6) rfl)
theorem i_CONTENT_LIMIT (T : Tp w K mg φ) : ∃ t, mg "CONTENT_LIMIT" = some (.int 400 t) := by
  obtain ⟨_, X, G⟩ := T.hp
  exact He.int_ok X G (T.fact 116 (.int "CONTENT_LIMIT" 400) rfl)
theorem i_ENTRY_LIMIT (T : Tp w K mg φ) : ∃ t, mg "ENTRY_LIMIT" = some (.int 60 t) := by
  obtain ⟨_, X, G⟩ := T.hp
  exact He.int_ok X G (T.fact 117 (.int "ENTRY_LIMIT" 60) rfl)
theorem i_LINK_LIMIT (T : Tp w K mg φ) : ∃ t, mg "LINK_LIMIT" = some (.int 8 t) := by
  obtain ⟨_, X, G⟩ := T.hp
  exact He.int_ok X G (T.fact 118 (.int "LINK_LIMIT" 8) rfl)
theorem s_SIGNS (T : Tp w K mg φ) : ∃ t, mg "SIGNS" = some (.str "(),+" t) := by
  obtain ⟨_, X, G⟩ := T.hp
  exact He.str_ok X G (T.fact 119 (.str "SIGNS" "(),+") rfl)
theorem s_LETTERS (T : Tp w K mg φ) : ∃ t, mg "LETTERS" = some (.str "abcdefghijklmnopqrstuvwxyz" t) := by
  obtain ⟨_, X, G⟩ := T.hp
  exact He.str_ok X G (T.fact 120 (.str "LETTERS" "abcdefghijklmnopqrstuvwxyz") rfl)
theorem s_NAME_CHARACTERS (T : Tp w K mg φ) : ∃ t, mg "NAME_CHARACTERS" = some (.str "abcdefghijklmnopqrstuvwxyz0123456789_." t) := by
  obtain ⟨_, X, G⟩ := T.hp
  exact He.str_ok X G (T.fact 121 (.str "NAME_CHARACTERS" "abcdefghijklmnopqrstuvwxyz0123456789_.") rfl)
theorem s_FIRST_FILE (T : Tp w K mg φ) : ∃ t, mg "FIRST_FILE" = some (.str "rules" t) := by
  obtain ⟨_, X, G⟩ := T.hp
  exact He.str_ok X G (T.fact 122 (.str "FIRST_FILE" "rules") rfl)
theorem z_len (T : Tp w K mg φ) : mg "len" = none := by
  obtain ⟨_, X, G⟩ := T.hp
  exact He.free_ok X G (T.fact 123 (.free "len") rfl)
theorem z_all (T : Tp w K mg φ) : mg "all" = none := by
  obtain ⟨_, X, G⟩ := T.hp
  exact He.free_ok X G (T.fact 124 (.free "all") rfl)
theorem z_any (T : Tp w K mg φ) : mg "any" = none := by
  obtain ⟨_, X, G⟩ := T.hp
  exact He.free_ok X G (T.fact 125 (.free "any") rfl)
theorem z_int (T : Tp w K mg φ) : mg "int" = none := by
  obtain ⟨_, X, G⟩ := T.hp
  exact He.free_ok X G (T.fact 126 (.free "int") rfl)
theorem z_str (T : Tp w K mg φ) : mg "str" = none := by
  obtain ⟨_, X, G⟩ := T.hp
  exact He.free_ok X G (T.fact 127 (.free "str") rfl)
theorem z_abs (T : Tp w K mg φ) : mg "abs" = none := by
  obtain ⟨_, X, G⟩ := T.hp
  exact He.free_ok X G (T.fact 128 (.free "abs") rfl)
theorem z_range (T : Tp w K mg φ) : mg "range" = none := by
  obtain ⟨_, X, G⟩ := T.hp
  exact He.free_ok X G (T.fact 129 (.free "range") rfl)
theorem z_tuple (T : Tp w K mg φ) : mg "tuple" = none := by
  obtain ⟨_, X, G⟩ := T.hp
  exact He.free_ok X G (T.fact 130 (.free "tuple") rfl)
theorem z_list (T : Tp w K mg φ) : mg "list" = none := by
  obtain ⟨_, X, G⟩ := T.hp
  exact He.free_ok X G (T.fact 131 (.free "list") rfl)
theorem z_dict (T : Tp w K mg φ) : mg "dict" = none := by
  obtain ⟨_, X, G⟩ := T.hp
  exact He.free_ok X G (T.fact 132 (.free "dict") rfl)
theorem z_ord (T : Tp w K mg φ) : mg "ord" = none := by
  obtain ⟨_, X, G⟩ := T.hp
  exact He.free_ok X G (T.fact 133 (.free "ord") rfl)
theorem z_isinstance (T : Tp w K mg φ) : mg "isinstance" = none := by
  obtain ⟨_, X, G⟩ := T.hp
  exact He.free_ok X G (T.fact 134 (.free "isinstance") rfl)
theorem z_bool (T : Tp w K mg φ) : mg "bool" = none := by
  obtain ⟨_, X, G⟩ := T.hp
  exact He.free_ok X G (T.fact 135 (.free "bool") rfl)
end Tp
namespace Tp
theorem F_is_identifier (T : Tp w K mg φ) : FunD K "is_identifier" "is_identifier" (defArgs s_is_identifier) (defBody s_is_identifier) (defScope s_is_identifier) [] [] (He.ga K "is_identifier") (φ ("is_identifier", none)) := T.fn 0 d_is_identifier rfl
theorem b_is_identifier (T : Tp w K mg φ) : Binds K (φ ("is_identifier", none)) P_is_identifier [] := T.F_is_identifier.bindsN fun _ _ _ _ _ _ us hl => match us, hl with | [_], _ => rfl
theorem k_is_identifier (T : Tp w K mg φ) : PySem.W.keepIn K (.ref (He.ga K "is_identifier")) = true := T.F_is_identifier.kp
theorem F_is_skipped (T : Tp w K mg φ) : FunD K "is_skipped" "is_skipped" (defArgs s_is_skipped) (defBody s_is_skipped) (defScope s_is_skipped) [] [] (He.ga K "is_skipped") (φ ("is_skipped", none)) := T.fn 1 d_is_skipped rfl
theorem b_is_skipped (T : Tp w K mg φ) : Binds K (φ ("is_skipped", none)) P_is_skipped [] := T.F_is_skipped.bindsN fun _ _ _ _ _ _ us hl => match us, hl with | [_], _ => rfl
theorem k_is_skipped (T : Tp w K mg φ) : PySem.W.keepIn K (.ref (He.ga K "is_skipped")) = true := T.F_is_skipped.kp
theorem F_scan_string (T : Tp w K mg φ) : FunD K "scan_string" "scan_string" (defArgs s_scan_string) (defBody s_scan_string) (defScope s_scan_string) [] [] (He.ga K "scan_string") (φ ("scan_string", none)) := T.fn 2 d_scan_string rfl
theorem b_scan_string (T : Tp w K mg φ) : Binds K (φ ("scan_string", none)) P_scan_string [] := T.F_scan_string.bindsN fun _ _ _ _ _ _ us hl => match us, hl with | [_, _, _, _], _ => rfl
theorem k_scan_string (T : Tp w K mg φ) : PySem.W.keepIn K (.ref (He.ga K "scan_string")) = true := T.F_scan_string.kp
theorem F_word_end (T : Tp w K mg φ) : FunD K "word_end" "word_end" (defArgs s_word_end) (defBody s_word_end) (defScope s_word_end) [] [] (He.ga K "word_end") (φ ("word_end", none)) := T.fn 3 d_word_end rfl
theorem b_word_end (T : Tp w K mg φ) : Binds K (φ ("word_end", none)) P_word_end [] := T.F_word_end.bindsN fun _ _ _ _ _ _ us hl => match us, hl with | [_, _], _ => rfl
theorem k_word_end (T : Tp w K mg φ) : PySem.W.keepIn K (.ref (He.ga K "word_end")) = true := T.F_word_end.kp
theorem F_scan_line (T : Tp w K mg φ) : FunD K "scan_line" "scan_line" (defArgs s_scan_line) (defBody s_scan_line) (defScope s_scan_line) [] [] (He.ga K "scan_line") (φ ("scan_line", none)) := T.fn 4 d_scan_line rfl
theorem b_scan_line (T : Tp w K mg φ) : Binds K (φ ("scan_line", none)) P_scan_line [] := T.F_scan_line.bindsN fun _ _ _ _ _ _ us hl => match us, hl with | [_, _, _], _ => rfl
theorem k_scan_line (T : Tp w K mg φ) : PySem.W.keepIn K (.ref (He.ga K "scan_line")) = true := T.F_scan_line.kp
theorem F_Line___init__ (T : Tp w K mg φ) : FunD K "__init__" "Line.__init__" (defArgs s_Line___init__) (defBody s_Line___init__) (defScope s_Line___init__) [] [] (He.ma K (He.ga K "Line") "__init__") (φ ("Line", some "__init__")) := T.fn 5 d_Line___init__ rfl
theorem b_Line___init__ (T : Tp w K mg φ) : Binds K (φ ("Line", some "__init__")) P_Line___init__ [] := T.F_Line___init__.bindsN fun _ _ _ _ _ _ us hl => match us, hl with | [_, _, _, _], _ => rfl
theorem k_Line___init__ (T : Tp w K mg φ) : PySem.W.keepIn K (.ref (He.ma K (He.ga K "Line") "__init__")) = true := T.F_Line___init__.kp
theorem F_Line_need (T : Tp w K mg φ) : FunD K "need" "Line.need" (defArgs s_Line_need) (defBody s_Line_need) (defScope s_Line_need) [] [] (He.ma K (He.ga K "Line") "need") (φ ("Line", some "need")) := T.fn 6 d_Line_need rfl
theorem b_Line_need (T : Tp w K mg φ) : Binds K (φ ("Line", some "need")) P_Line_need [] := T.F_Line_need.bindsN fun _ _ _ _ _ _ us hl => match us, hl with | [_, _], _ => rfl
theorem k_Line_need (T : Tp w K mg φ) : PySem.W.keepIn K (.ref (He.ma K (He.ga K "Line") "need")) = true := T.F_Line_need.kp
theorem F_Line_finish (T : Tp w K mg φ) : FunD K "finish" "Line.finish" (defArgs s_Line_finish) (defBody s_Line_finish) (defScope s_Line_finish) [] [] (He.ma K (He.ga K "Line") "finish") (φ ("Line", some "finish")) := T.fn 7 d_Line_finish rfl
theorem b_Line_finish (T : Tp w K mg φ) : Binds K (φ ("Line", some "finish")) P_Line_finish [] := T.F_Line_finish.bindsN fun _ _ _ _ _ _ us hl => match us, hl with | [_, _], _ => rfl
theorem k_Line_finish (T : Tp w K mg φ) : PySem.W.keepIn K (.ref (He.ma K (He.ga K "Line") "finish")) = true := T.F_Line_finish.kp
theorem F_Line_word (T : Tp w K mg φ) : FunD K "word" "Line.word" (defArgs s_Line_word) (defBody s_Line_word) (defScope s_Line_word) [] [] (He.ma K (He.ga K "Line") "word") (φ ("Line", some "word")) := T.fn 8 d_Line_word rfl
theorem b_Line_word (T : Tp w K mg φ) : Binds K (φ ("Line", some "word")) P_Line_word [] := T.F_Line_word.bindsN fun _ _ _ _ _ _ us hl => match us, hl with | [_, _], _ => rfl
theorem k_Line_word (T : Tp w K mg φ) : PySem.W.keepIn K (.ref (He.ma K (He.ga K "Line") "word")) = true := T.F_Line_word.kp
theorem F_Line_identifier (T : Tp w K mg φ) : FunD K "identifier" "Line.identifier" (defArgs s_Line_identifier) (defBody s_Line_identifier) (defScope s_Line_identifier) [] [("barred", .str "")] (He.ma K (He.ga K "Line") "identifier") (φ ("Line", some "identifier")) := T.fn 9 d_Line_identifier rfl
theorem k_Line_identifier (T : Tp w K mg φ) : PySem.W.keepIn K (.ref (He.ma K (He.ga K "Line") "identifier")) = true := T.F_Line_identifier.kp
theorem F_is_sign (T : Tp w K mg φ) : FunD K "is_sign" "is_sign" (defArgs s_is_sign) (defBody s_is_sign) (defScope s_is_sign) [] [] (He.ga K "is_sign") (φ ("is_sign", none)) := T.fn 10 d_is_sign rfl
theorem b_is_sign (T : Tp w K mg φ) : Binds K (φ ("is_sign", none)) P_is_sign [] := T.F_is_sign.bindsN fun _ _ _ _ _ _ us hl => match us, hl with | [_, _, _], _ => rfl
theorem k_is_sign (T : Tp w K mg φ) : PySem.W.keepIn K (.ref (He.ga K "is_sign")) = true := T.F_is_sign.kp
theorem F_parse_expression (T : Tp w K mg φ) : FunD K "parse_expression" "parse_expression" (defArgs s_parse_expression) (defBody s_parse_expression) (defScope s_parse_expression) [] [] (He.ga K "parse_expression") (φ ("parse_expression", none)) := T.fn 11 d_parse_expression rfl
theorem b_parse_expression (T : Tp w K mg φ) : Binds K (φ ("parse_expression", none)) P_parse_expression [] := T.F_parse_expression.bindsN fun _ _ _ _ _ _ us hl => match us, hl with | [_, _, _], _ => rfl
theorem k_parse_expression (T : Tp w K mg φ) : PySem.W.keepIn K (.ref (He.ga K "parse_expression")) = true := T.F_parse_expression.kp
theorem F_parse_terms (T : Tp w K mg φ) : FunD K "parse_terms" "parse_terms" (defArgs s_parse_terms) (defBody s_parse_terms) (defScope s_parse_terms) [] [] (He.ga K "parse_terms") (φ ("parse_terms", none)) := T.fn 12 d_parse_terms rfl
theorem b_parse_terms (T : Tp w K mg φ) : Binds K (φ ("parse_terms", none)) P_parse_terms [] := T.F_parse_terms.bindsN fun _ _ _ _ _ _ us hl => match us, hl with | [_, _, _, _], _ => rfl
theorem k_parse_terms (T : Tp w K mg φ) : PySem.W.keepIn K (.ref (He.ga K "parse_terms")) = true := T.F_parse_terms.kp
theorem F_parse_term (T : Tp w K mg φ) : FunD K "parse_term" "parse_term" (defArgs s_parse_term) (defBody s_parse_term) (defScope s_parse_term) [] [] (He.ga K "parse_term") (φ ("parse_term", none)) := T.fn 13 d_parse_term rfl
theorem b_parse_term (T : Tp w K mg φ) : Binds K (φ ("parse_term", none)) P_parse_term [] := T.F_parse_term.bindsN fun _ _ _ _ _ _ us hl => match us, hl with | [_, _, _, _], _ => rfl
theorem k_parse_term (T : Tp w K mg φ) : PySem.W.keepIn K (.ref (He.ga K "parse_term")) = true := T.F_parse_term.kp
theorem F_parse_call (T : Tp w K mg φ) : FunD K "parse_call" "parse_call" (defArgs s_parse_call) (defBody s_parse_call) (defScope s_parse_call) [] [] (He.ga K "parse_call") (φ ("parse_call", none)) := T.fn 14 d_parse_call rfl
theorem b_parse_call (T : Tp w K mg φ) : Binds K (φ ("parse_call", none)) P_parse_call [] := T.F_parse_call.bindsN fun _ _ _ _ _ _ us hl => match us, hl with | [_, _, _, _], _ => rfl
theorem k_parse_call (T : Tp w K mg φ) : PySem.W.keepIn K (.ref (He.ga K "parse_call")) = true := T.F_parse_call.kp
theorem F_BodyReader___init__ (T : Tp w K mg φ) : FunD K "__init__" "BodyReader.__init__" (defArgs s_BodyReader___init__) (defBody s_BodyReader___init__) (defScope s_BodyReader___init__) [] [] (He.ma K (He.ga K "BodyReader") "__init__") (φ ("BodyReader", some "__init__")) := T.fn 15 d_BodyReader___init__ rfl
theorem b_BodyReader___init__ (T : Tp w K mg φ) : Binds K (φ ("BodyReader", some "__init__")) P_BodyReader___init__ [] := T.F_BodyReader___init__.bindsN fun _ _ _ _ _ _ us hl => match us, hl with | [_, _, _, _, _], _ => rfl
theorem k_BodyReader___init__ (T : Tp w K mg φ) : PySem.W.keepIn K (.ref (He.ma K (He.ga K "BodyReader") "__init__")) = true := T.F_BodyReader___init__.kp
theorem F_BodyReader_next_line (T : Tp w K mg φ) : FunD K "next_line" "BodyReader.next_line" (defArgs s_BodyReader_next_line) (defBody s_BodyReader_next_line) (defScope s_BodyReader_next_line) [] [] (He.ma K (He.ga K "BodyReader") "next_line") (φ ("BodyReader", some "next_line")) := T.fn 16 d_BodyReader_next_line rfl
theorem b_BodyReader_next_line (T : Tp w K mg φ) : Binds K (φ ("BodyReader", some "next_line")) P_BodyReader_next_line [] := T.F_BodyReader_next_line.bindsN fun _ _ _ _ _ _ us hl => match us, hl with | [_], _ => rfl
theorem k_BodyReader_next_line (T : Tp w K mg φ) : PySem.W.keepIn K (.ref (He.ma K (He.ga K "BodyReader") "next_line")) = true := T.F_BodyReader_next_line.kp
theorem F_BodyReader_read_block (T : Tp w K mg φ) : FunD K "read_block" "BodyReader.read_block" (defArgs s_BodyReader_read_block) (defBody s_BodyReader_read_block) (defScope s_BodyReader_read_block) [] [] (He.ma K (He.ga K "BodyReader") "read_block") (φ ("BodyReader", some "read_block")) := T.fn 17 d_BodyReader_read_block rfl
theorem b_BodyReader_read_block (T : Tp w K mg φ) : Binds K (φ ("BodyReader", some "read_block")) P_BodyReader_read_block [] := T.F_BodyReader_read_block.bindsN fun _ _ _ _ _ _ us hl => match us, hl with | [_, _, _, _], _ => rfl
theorem k_BodyReader_read_block (T : Tp w K mg φ) : PySem.W.keepIn K (.ref (He.ma K (He.ga K "BodyReader") "read_block")) = true := T.F_BodyReader_read_block.kp
theorem F_BodyReader_read_statement (T : Tp w K mg φ) : FunD K "read_statement" "BodyReader.read_statement" (defArgs s_BodyReader_read_statement) (defBody s_BodyReader_read_statement) (defScope s_BodyReader_read_statement) [] [] (He.ma K (He.ga K "BodyReader") "read_statement") (φ ("BodyReader", some "read_statement")) := T.fn 18 d_BodyReader_read_statement rfl
theorem b_BodyReader_read_statement (T : Tp w K mg φ) : Binds K (φ ("BodyReader", some "read_statement")) P_BodyReader_read_statement [] := T.F_BodyReader_read_statement.bindsN fun _ _ _ _ _ _ us hl => match us, hl with | [_, _, _, _, _], _ => rfl
theorem k_BodyReader_read_statement (T : Tp w K mg φ) : PySem.W.keepIn K (.ref (He.ma K (He.ga K "BodyReader") "read_statement")) = true := T.F_BodyReader_read_statement.kp
theorem F_BodyReader_read_put (T : Tp w K mg φ) : FunD K "read_put" "BodyReader.read_put" (defArgs s_BodyReader_read_put) (defBody s_BodyReader_read_put) (defScope s_BodyReader_read_put) [] [] (He.ma K (He.ga K "BodyReader") "read_put") (φ ("BodyReader", some "read_put")) := T.fn 19 d_BodyReader_read_put rfl
theorem b_BodyReader_read_put (T : Tp w K mg φ) : Binds K (φ ("BodyReader", some "read_put")) P_BodyReader_read_put [] := T.F_BodyReader_read_put.bindsN fun _ _ _ _ _ _ us hl => match us, hl with | [_, _, _], _ => rfl
theorem k_BodyReader_read_put (T : Tp w K mg φ) : PySem.W.keepIn K (.ref (He.ma K (He.ga K "BodyReader") "read_put")) = true := T.F_BodyReader_read_put.kp
theorem F_BodyReader_read_if (T : Tp w K mg φ) : FunD K "read_if" "BodyReader.read_if" (defArgs s_BodyReader_read_if) (defBody s_BodyReader_read_if) (defScope s_BodyReader_read_if) [] [] (He.ma K (He.ga K "BodyReader") "read_if") (φ ("BodyReader", some "read_if")) := T.fn 20 d_BodyReader_read_if rfl
theorem b_BodyReader_read_if (T : Tp w K mg φ) : Binds K (φ ("BodyReader", some "read_if")) P_BodyReader_read_if [] := T.F_BodyReader_read_if.bindsN fun _ _ _ _ _ _ us hl => match us, hl with | [_, _, _, _], _ => rfl
theorem k_BodyReader_read_if (T : Tp w K mg φ) : PySem.W.keepIn K (.ref (He.ma K (He.ga K "BodyReader") "read_if")) = true := T.F_BodyReader_read_if.kp
theorem F_BodyReader_read_each (T : Tp w K mg φ) : FunD K "read_each" "BodyReader.read_each" (defArgs s_BodyReader_read_each) (defBody s_BodyReader_read_each) (defScope s_BodyReader_read_each) [] [] (He.ma K (He.ga K "BodyReader") "read_each") (φ ("BodyReader", some "read_each")) := T.fn 21 d_BodyReader_read_each rfl
theorem b_BodyReader_read_each (T : Tp w K mg φ) : Binds K (φ ("BodyReader", some "read_each")) P_BodyReader_read_each [] := T.F_BodyReader_read_each.bindsN fun _ _ _ _ _ _ us hl => match us, hl with | [_, _, _, _], _ => rfl
theorem k_BodyReader_read_each (T : Tp w K mg φ) : PySem.W.keepIn K (.ref (He.ma K (He.ga K "BodyReader") "read_each")) = true := T.F_BodyReader_read_each.kp
theorem F_read_expression (T : Tp w K mg φ) : FunD K "read_expression" "read_expression" (defArgs s_read_expression) (defBody s_read_expression) (defScope s_read_expression) [] [] (He.ga K "read_expression") (φ ("read_expression", none)) := T.fn 22 d_read_expression rfl
theorem b_read_expression (T : Tp w K mg φ) : Binds K (φ ("read_expression", none)) P_read_expression [] := T.F_read_expression.bindsN fun _ _ _ _ _ _ us hl => match us, hl with | [_, _, _], _ => rfl
theorem k_read_expression (T : Tp w K mg φ) : PySem.W.keepIn K (.ref (He.ga K "read_expression")) = true := T.F_read_expression.kp
theorem F_is_name (T : Tp w K mg φ) : FunD K "is_name" "is_name" (defArgs s_is_name) (defBody s_is_name) (defScope s_is_name) [] [] (He.ga K "is_name") (φ ("is_name", none)) := T.fn 23 d_is_name rfl
theorem b_is_name (T : Tp w K mg φ) : Binds K (φ ("is_name", none)) P_is_name [] := T.F_is_name.bindsN fun _ _ _ _ _ _ us hl => match us, hl with | [_, _], _ => rfl
theorem k_is_name (T : Tp w K mg φ) : PySem.W.keepIn K (.ref (He.ga K "is_name")) = true := T.F_is_name.kp
theorem F_is_path (T : Tp w K mg φ) : FunD K "is_path" "is_path" (defArgs s_is_path) (defBody s_is_path) (defScope s_is_path) [] [] (He.ga K "is_path") (φ ("is_path", none)) := T.fn 24 d_is_path rfl
theorem b_is_path (T : Tp w K mg φ) : Binds K (φ ("is_path", none)) P_is_path [] := T.F_is_path.bindsN fun _ _ _ _ _ _ us hl => match us, hl with | [_], _ => rfl
theorem k_is_path (T : Tp w K mg φ) : PySem.W.keepIn K (.ref (He.ga K "is_path")) = true := T.F_is_path.kp
theorem F_is_pattern (T : Tp w K mg φ) : FunD K "is_pattern" "is_pattern" (defArgs s_is_pattern) (defBody s_is_pattern) (defScope s_is_pattern) [] [] (He.ga K "is_pattern") (φ ("is_pattern", none)) := T.fn 25 d_is_pattern rfl
theorem b_is_pattern (T : Tp w K mg φ) : Binds K (φ ("is_pattern", none)) P_is_pattern [] := T.F_is_pattern.bindsN fun _ _ _ _ _ _ us hl => match us, hl with | [_], _ => rfl
theorem k_is_pattern (T : Tp w K mg φ) : PySem.W.keepIn K (.ref (He.ga K "is_pattern")) = true := T.F_is_pattern.kp
theorem F_Rule___init__ (T : Tp w K mg φ) : FunD K "__init__" "Rule.__init__" (defArgs s_Rule___init__) (defBody s_Rule___init__) (defScope s_Rule___init__) [] [] (He.ma K (He.ga K "Rule") "__init__") (φ ("Rule", some "__init__")) := T.fn 26 d_Rule___init__ rfl
theorem b_Rule___init__ (T : Tp w K mg φ) : Binds K (φ ("Rule", some "__init__")) P_Rule___init__ [] := T.F_Rule___init__.bindsN fun _ _ _ _ _ _ us hl => match us, hl with | [_, _, _, _, _], _ => rfl
theorem k_Rule___init__ (T : Tp w K mg φ) : PySem.W.keepIn K (.ref (He.ma K (He.ga K "Rule") "__init__")) = true := T.F_Rule___init__.kp
theorem F_Rule___eq__ (T : Tp w K mg φ) : FunD K "__eq__" "Rule.__eq__" (defArgs s_Rule___eq__) (defBody s_Rule___eq__) (defScope s_Rule___eq__) [] [] (He.ma K (He.ga K "Rule") "__eq__") (φ ("Rule", some "__eq__")) := T.fn 27 d_Rule___eq__ rfl
theorem b_Rule___eq__ (T : Tp w K mg φ) : Binds K (φ ("Rule", some "__eq__")) P_Rule___eq__ [] := T.F_Rule___eq__.bindsN fun _ _ _ _ _ _ us hl => match us, hl with | [_, _], _ => rfl
theorem k_Rule___eq__ (T : Tp w K mg φ) : PySem.W.keepIn K (.ref (He.ma K (He.ga K "Rule") "__eq__")) = true := T.F_Rule___eq__.kp
theorem F_Rule_is_pattern (T : Tp w K mg φ) : FunD K "is_pattern" "Rule.is_pattern" (defArgs s_Rule_is_pattern) (defBody s_Rule_is_pattern) (defScope s_Rule_is_pattern) [] [] (He.ma K (He.ga K "Rule") "is_pattern") (φ ("Rule", some "is_pattern")) := T.fn 28 d_Rule_is_pattern rfl
theorem b_Rule_is_pattern (T : Tp w K mg φ) : Binds K (φ ("Rule", some "is_pattern")) P_Rule_is_pattern [] := T.F_Rule_is_pattern.bindsN fun _ _ _ _ _ _ us hl => match us, hl with | [_], _ => rfl
theorem k_Rule_is_pattern (T : Tp w K mg φ) : PySem.W.keepIn K (.ref (He.ma K (He.ga K "Rule") "is_pattern")) = true := T.F_Rule_is_pattern.kp
theorem F_Book___init__ (T : Tp w K mg φ) : FunD K "__init__" "Book.__init__" (defArgs s_Book___init__) (defBody s_Book___init__) (defScope s_Book___init__) [] [] (He.ma K (He.ga K "Book") "__init__") (φ ("Book", some "__init__")) := T.fn 29 d_Book___init__ rfl
theorem b_Book___init__ (T : Tp w K mg φ) : Binds K (φ ("Book", some "__init__")) P_Book___init__ [] := T.F_Book___init__.bindsN fun _ _ _ _ _ _ us hl => match us, hl with | [_], _ => rfl
theorem k_Book___init__ (T : Tp w K mg φ) : PySem.W.keepIn K (.ref (He.ma K (He.ga K "Book") "__init__")) = true := T.F_Book___init__.kp
theorem F_recipe_text (T : Tp w K mg φ) : FunD K "recipe_text" "recipe_text" (defArgs s_recipe_text) (defBody s_recipe_text) (defScope s_recipe_text) [] [] (He.ga K "recipe_text") (φ ("recipe_text", none)) := T.fn 30 d_recipe_text rfl
theorem b_recipe_text (T : Tp w K mg φ) : Binds K (φ ("recipe_text", none)) P_recipe_text [] := T.F_recipe_text.bindsN fun _ _ _ _ _ _ us hl => match us, hl with | [_, _], _ => rfl
theorem k_recipe_text (T : Tp w K mg φ) : PySem.W.keepIn K (.ref (He.ga K "recipe_text")) = true := T.F_recipe_text.kp
theorem F_BookReader___init__ (T : Tp w K mg φ) : FunD K "__init__" "BookReader.__init__" (defArgs s_BookReader___init__) (defBody s_BookReader___init__) (defScope s_BookReader___init__) [] [] (He.ma K (He.ga K "BookReader") "__init__") (φ ("BookReader", some "__init__")) := T.fn 31 d_BookReader___init__ rfl
theorem b_BookReader___init__ (T : Tp w K mg φ) : Binds K (φ ("BookReader", some "__init__")) P_BookReader___init__ [] := T.F_BookReader___init__.bindsN fun _ _ _ _ _ _ us hl => match us, hl with | [_, _], _ => rfl
theorem k_BookReader___init__ (T : Tp w K mg φ) : PySem.W.keepIn K (.ref (He.ma K (He.ga K "BookReader") "__init__")) = true := T.F_BookReader___init__.kp
theorem F_BookReader_read_file (T : Tp w K mg φ) : FunD K "read_file" "BookReader.read_file" (defArgs s_BookReader_read_file) (defBody s_BookReader_read_file) (defScope s_BookReader_read_file) [] [] (He.ma K (He.ga K "BookReader") "read_file") (φ ("BookReader", some "read_file")) := T.fn 32 d_BookReader_read_file rfl
theorem b_BookReader_read_file (T : Tp w K mg φ) : Binds K (φ ("BookReader", some "read_file")) P_BookReader_read_file [] := T.F_BookReader_read_file.bindsN fun _ _ _ _ _ _ us hl => match us, hl with | [_, _, _], _ => rfl
theorem k_BookReader_read_file (T : Tp w K mg φ) : PySem.W.keepIn K (.ref (He.ma K (He.ga K "BookReader") "read_file")) = true := T.F_BookReader_read_file.kp
theorem F_BookReader_read_line (T : Tp w K mg φ) : FunD K "read_line" "BookReader.read_line" (defArgs s_BookReader_read_line) (defBody s_BookReader_read_line) (defScope s_BookReader_read_line) [] [] (He.ma K (He.ga K "BookReader") "read_line") (φ ("BookReader", some "read_line")) := T.fn 33 d_BookReader_read_line rfl
theorem b_BookReader_read_line (T : Tp w K mg φ) : Binds K (φ ("BookReader", some "read_line")) P_BookReader_read_line [] := T.F_BookReader_read_line.bindsN fun _ _ _ _ _ _ us hl => match us, hl with | [_, _, _, _], _ => rfl
theorem k_BookReader_read_line (T : Tp w K mg φ) : PySem.W.keepIn K (.ref (He.ma K (He.ga K "BookReader") "read_line")) = true := T.F_BookReader_read_line.kp
theorem F_BookReader_read_setting (T : Tp w K mg φ) : FunD K "read_setting" "BookReader.read_setting" (defArgs s_BookReader_read_setting) (defBody s_BookReader_read_setting) (defScope s_BookReader_read_setting) [] [] (He.ma K (He.ga K "BookReader") "read_setting") (φ ("BookReader", some "read_setting")) := T.fn 34 d_BookReader_read_setting rfl
theorem b_BookReader_read_setting (T : Tp w K mg φ) : Binds K (φ ("BookReader", some "read_setting")) P_BookReader_read_setting [] := T.F_BookReader_read_setting.bindsN fun _ _ _ _ _ _ us hl => match us, hl with | [_, _], _ => rfl
theorem k_BookReader_read_setting (T : Tp w K mg φ) : PySem.W.keepIn K (.ref (He.ma K (He.ga K "BookReader") "read_setting")) = true := T.F_BookReader_read_setting.kp
theorem F_BookReader_read_use (T : Tp w K mg φ) : FunD K "read_use" "BookReader.read_use" (defArgs s_BookReader_read_use) (defBody s_BookReader_read_use) (defScope s_BookReader_read_use) [] [] (He.ma K (He.ga K "BookReader") "read_use") (φ ("BookReader", some "read_use")) := T.fn 35 d_BookReader_read_use rfl
theorem b_BookReader_read_use (T : Tp w K mg φ) : Binds K (φ ("BookReader", some "read_use")) P_BookReader_read_use [] := T.F_BookReader_read_use.bindsN fun _ _ _ _ _ _ us hl => match us, hl with | [_, _], _ => rfl
theorem k_BookReader_read_use (T : Tp w K mg φ) : PySem.W.keepIn K (.ref (He.ma K (He.ga K "BookReader") "read_use")) = true := T.F_BookReader_read_use.kp
theorem F_BookReader_is_output (T : Tp w K mg φ) : FunD K "is_output" "BookReader.is_output" (defArgs s_BookReader_is_output) (defBody s_BookReader_is_output) (defScope s_BookReader_is_output) [] [] (He.ma K (He.ga K "BookReader") "is_output") (φ ("BookReader", some "is_output")) := T.fn 36 d_BookReader_is_output rfl
theorem b_BookReader_is_output (T : Tp w K mg φ) : Binds K (φ ("BookReader", some "is_output")) P_BookReader_is_output [] := T.F_BookReader_is_output.bindsN fun _ _ _ _ _ _ us hl => match us, hl with | [_, _], _ => rfl
theorem k_BookReader_is_output (T : Tp w K mg φ) : PySem.W.keepIn K (.ref (He.ma K (He.ga K "BookReader") "is_output")) = true := T.F_BookReader_is_output.kp
theorem F_BookReader_read_outputs (T : Tp w K mg φ) : FunD K "read_outputs" "BookReader.read_outputs" (defArgs s_BookReader_read_outputs) (defBody s_BookReader_read_outputs) (defScope s_BookReader_read_outputs) [] [] (He.ma K (He.ga K "BookReader") "read_outputs") (φ ("BookReader", some "read_outputs")) := T.fn 37 d_BookReader_read_outputs rfl
theorem b_BookReader_read_outputs (T : Tp w K mg φ) : Binds K (φ ("BookReader", some "read_outputs")) P_BookReader_read_outputs [] := T.F_BookReader_read_outputs.bindsN fun _ _ _ _ _ _ us hl => match us, hl with | [_, _], _ => rfl
theorem k_BookReader_read_outputs (T : Tp w K mg φ) : PySem.W.keepIn K (.ref (He.ma K (He.ga K "BookReader") "read_outputs")) = true := T.F_BookReader_read_outputs.kp
theorem F_BookReader_check_output (T : Tp w K mg φ) : FunD K "check_output" "BookReader.check_output" (defArgs s_BookReader_check_output) (defBody s_BookReader_check_output) (defScope s_BookReader_check_output) [] [] (He.ma K (He.ga K "BookReader") "check_output") (φ ("BookReader", some "check_output")) := T.fn 38 d_BookReader_check_output rfl
theorem b_BookReader_check_output (T : Tp w K mg φ) : Binds K (φ ("BookReader", some "check_output")) P_BookReader_check_output [] := T.F_BookReader_check_output.bindsN fun _ _ _ _ _ _ us hl => match us, hl with | [_, _, _, _], _ => rfl
theorem k_BookReader_check_output (T : Tp w K mg φ) : PySem.W.keepIn K (.ref (He.ma K (He.ga K "BookReader") "check_output")) = true := T.F_BookReader_check_output.kp
theorem F_read_inputs (T : Tp w K mg φ) : FunD K "read_inputs" "read_inputs" (defArgs s_read_inputs) (defBody s_read_inputs) (defScope s_read_inputs) [] [] (He.ga K "read_inputs") (φ ("read_inputs", none)) := T.fn 39 d_read_inputs rfl
theorem b_read_inputs (T : Tp w K mg φ) : Binds K (φ ("read_inputs", none)) P_read_inputs [] := T.F_read_inputs.bindsN fun _ _ _ _ _ _ us hl => match us, hl with | [_, _, _], _ => rfl
theorem k_read_inputs (T : Tp w K mg φ) : PySem.W.keepIn K (.ref (He.ga K "read_inputs")) = true := T.F_read_inputs.kp
theorem F_parse_book (T : Tp w K mg φ) : FunD K "parse_book" "parse_book" (defArgs s_parse_book) (defBody s_parse_book) (defScope s_parse_book) [] [] (He.ga K "parse_book") (φ ("parse_book", none)) := T.fn 40 d_parse_book rfl
theorem b_parse_book (T : Tp w K mg φ) : Binds K (φ ("parse_book", none)) P_parse_book [] := T.F_parse_book.bindsN fun _ _ _ _ _ _ us hl => match us, hl with | [_], _ => rfl
theorem k_parse_book (T : Tp w K mg φ) : PySem.W.keepIn K (.ref (He.ga K "parse_book")) = true := T.F_parse_book.kp
theorem F_is_text_code (T : Tp w K mg φ) : FunD K "is_text_code" "is_text_code" (defArgs s_is_text_code) (defBody s_is_text_code) (defScope s_is_text_code) [] [] (He.ga K "is_text_code") (φ ("is_text_code", none)) := T.fn 41 d_is_text_code rfl
theorem b_is_text_code (T : Tp w K mg φ) : Binds K (φ ("is_text_code", none)) P_is_text_code [] := T.F_is_text_code.bindsN fun _ _ _ _ _ _ us hl => match us, hl with | [_], _ => rfl
theorem k_is_text_code (T : Tp w K mg φ) : PySem.W.keepIn K (.ref (He.ga K "is_text_code")) = true := T.F_is_text_code.kp
theorem F_is_text (T : Tp w K mg φ) : FunD K "is_text" "is_text" (defArgs s_is_text) (defBody s_is_text) (defScope s_is_text) [] [] (He.ga K "is_text") (φ ("is_text", none)) := T.fn 42 d_is_text rfl
theorem b_is_text (T : Tp w K mg φ) : Binds K (φ ("is_text", none)) P_is_text [] := T.F_is_text.bindsN fun _ _ _ _ _ _ us hl => match us, hl with | [_], _ => rfl
theorem k_is_text (T : Tp w K mg φ) : PySem.W.keepIn K (.ref (He.ga K "is_text")) = true := T.F_is_text.kp
theorem F_is_content (T : Tp w K mg φ) : FunD K "is_content" "is_content" (defArgs s_is_content) (defBody s_is_content) (defScope s_is_content) [] [] (He.ga K "is_content") (φ ("is_content", none)) := T.fn 43 d_is_content rfl
theorem b_is_content (T : Tp w K mg φ) : Binds K (φ ("is_content", none)) P_is_content [] := T.F_is_content.bindsN fun _ _ _ _ _ _ us hl => match us, hl with | [_], _ => rfl
theorem k_is_content (T : Tp w K mg φ) : PySem.W.keepIn K (.ref (He.ga K "is_content")) = true := T.F_is_content.kp
theorem F_Tree___init__ (T : Tp w K mg φ) : FunD K "__init__" "Tree.__init__" (defArgs s_Tree___init__) (defBody s_Tree___init__) (defScope s_Tree___init__) [] [] (He.ma K (He.ga K "Tree") "__init__") (φ ("Tree", some "__init__")) := T.fn 44 d_Tree___init__ rfl
theorem b_Tree___init__ (T : Tp w K mg φ) : Binds K (φ ("Tree", some "__init__")) P_Tree___init__ [] := T.F_Tree___init__.bindsN fun _ _ _ _ _ _ us hl => match us, hl with | [_], _ => rfl
theorem k_Tree___init__ (T : Tp w K mg φ) : PySem.W.keepIn K (.ref (He.ma K (He.ga K "Tree") "__init__")) = true := T.F_Tree___init__.kp
theorem F_Tree_write (T : Tp w K mg φ) : FunD K "write" "Tree.write" (defArgs s_Tree_write) (defBody s_Tree_write) (defScope s_Tree_write) [] [] (He.ma K (He.ga K "Tree") "write") (φ ("Tree", some "write")) := T.fn 45 d_Tree_write rfl
theorem b_Tree_write (T : Tp w K mg φ) : Binds K (φ ("Tree", some "write")) P_Tree_write [] := T.F_Tree_write.bindsN fun _ _ _ _ _ _ us hl => match us, hl with | [_, _, _, _], _ => rfl
theorem k_Tree_write (T : Tp w K mg φ) : PySem.W.keepIn K (.ref (He.ma K (He.ga K "Tree") "write")) = true := T.F_Tree_write.kp
theorem F_Tree_link (T : Tp w K mg φ) : FunD K "link" "Tree.link" (defArgs s_Tree_link) (defBody s_Tree_link) (defScope s_Tree_link) [] [] (He.ma K (He.ga K "Tree") "link") (φ ("Tree", some "link")) := T.fn 46 d_Tree_link rfl
theorem b_Tree_link (T : Tp w K mg φ) : Binds K (φ ("Tree", some "link")) P_Tree_link [] := T.F_Tree_link.bindsN fun _ _ _ _ _ _ us hl => match us, hl with | [_, _, _], _ => rfl
theorem k_Tree_link (T : Tp w K mg φ) : PySem.W.keepIn K (.ref (He.ma K (He.ga K "Tree") "link")) = true := T.F_Tree_link.kp
theorem F_Tree_is_personal (T : Tp w K mg φ) : FunD K "is_personal" "Tree.is_personal" (defArgs s_Tree_is_personal) (defBody s_Tree_is_personal) (defScope s_Tree_is_personal) [] [] (He.ma K (He.ga K "Tree") "is_personal") (φ ("Tree", some "is_personal")) := T.fn 47 d_Tree_is_personal rfl
theorem b_Tree_is_personal (T : Tp w K mg φ) : Binds K (φ ("Tree", some "is_personal")) P_Tree_is_personal [] := T.F_Tree_is_personal.bindsN fun _ _ _ _ _ _ us hl => match us, hl with | [_, _], _ => rfl
theorem k_Tree_is_personal (T : Tp w K mg φ) : PySem.W.keepIn K (.ref (He.ma K (He.ga K "Tree") "is_personal")) = true := T.F_Tree_is_personal.kp
theorem F_Tree_check_room (T : Tp w K mg φ) : FunD K "check_room" "Tree.check_room" (defArgs s_Tree_check_room) (defBody s_Tree_check_room) (defScope s_Tree_check_room) [] [] (He.ma K (He.ga K "Tree") "check_room") (φ ("Tree", some "check_room")) := T.fn 48 d_Tree_check_room rfl
theorem b_Tree_check_room (T : Tp w K mg φ) : Binds K (φ ("Tree", some "check_room")) P_Tree_check_room [] := T.F_Tree_check_room.bindsN fun _ _ _ _ _ _ us hl => match us, hl with | [_, _], _ => rfl
theorem k_Tree_check_room (T : Tp w K mg φ) : PySem.W.keepIn K (.ref (He.ma K (He.ga K "Tree") "check_room")) = true := T.F_Tree_check_room.kp
theorem F_Tree_kind (T : Tp w K mg φ) : FunD K "kind" "Tree.kind" (defArgs s_Tree_kind) (defBody s_Tree_kind) (defScope s_Tree_kind) [] [] (He.ma K (He.ga K "Tree") "kind") (φ ("Tree", some "kind")) := T.fn 49 d_Tree_kind rfl
theorem b_Tree_kind (T : Tp w K mg φ) : Binds K (φ ("Tree", some "kind")) P_Tree_kind [] := T.F_Tree_kind.bindsN fun _ _ _ _ _ _ us hl => match us, hl with | [_, _], _ => rfl
theorem k_Tree_kind (T : Tp w K mg φ) : PySem.W.keepIn K (.ref (He.ma K (He.ga K "Tree") "kind")) = true := T.F_Tree_kind.kp
theorem F_Tree_read (T : Tp w K mg φ) : FunD K "read" "Tree.read" (defArgs s_Tree_read) (defBody s_Tree_read) (defScope s_Tree_read) [] [] (He.ma K (He.ga K "Tree") "read") (φ ("Tree", some "read")) := T.fn 50 d_Tree_read rfl
theorem b_Tree_read (T : Tp w K mg φ) : Binds K (φ ("Tree", some "read")) P_Tree_read [] := T.F_Tree_read.bindsN fun _ _ _ _ _ _ us hl => match us, hl with | [_, _], _ => rfl
theorem k_Tree_read (T : Tp w K mg φ) : PySem.W.keepIn K (.ref (He.ma K (He.ga K "Tree") "read")) = true := T.F_Tree_read.kp
theorem F_Tree_writer (T : Tp w K mg φ) : FunD K "writer" "Tree.writer" (defArgs s_Tree_writer) (defBody s_Tree_writer) (defScope s_Tree_writer) [] [] (He.ma K (He.ga K "Tree") "writer") (φ ("Tree", some "writer")) := T.fn 51 d_Tree_writer rfl
theorem b_Tree_writer (T : Tp w K mg φ) : Binds K (φ ("Tree", some "writer")) P_Tree_writer [] := T.F_Tree_writer.bindsN fun _ _ _ _ _ _ us hl => match us, hl with | [_, _], _ => rfl
theorem k_Tree_writer (T : Tp w K mg φ) : PySem.W.keepIn K (.ref (He.ma K (He.ga K "Tree") "writer")) = true := T.F_Tree_writer.kp
theorem F_Tree_target (T : Tp w K mg φ) : FunD K "target" "Tree.target" (defArgs s_Tree_target) (defBody s_Tree_target) (defScope s_Tree_target) [] [] (He.ma K (He.ga K "Tree") "target") (φ ("Tree", some "target")) := T.fn 52 d_Tree_target rfl
theorem b_Tree_target (T : Tp w K mg φ) : Binds K (φ ("Tree", some "target")) P_Tree_target [] := T.F_Tree_target.bindsN fun _ _ _ _ _ _ us hl => match us, hl with | [_, _], _ => rfl
theorem k_Tree_target (T : Tp w K mg φ) : PySem.W.keepIn K (.ref (He.ma K (He.ga K "Tree") "target")) = true := T.F_Tree_target.kp
theorem F_Tree_resolve (T : Tp w K mg φ) : FunD K "resolve" "Tree.resolve" (defArgs s_Tree_resolve) (defBody s_Tree_resolve) (defScope s_Tree_resolve) [] [] (He.ma K (He.ga K "Tree") "resolve") (φ ("Tree", some "resolve")) := T.fn 53 d_Tree_resolve rfl
theorem b_Tree_resolve (T : Tp w K mg φ) : Binds K (φ ("Tree", some "resolve")) P_Tree_resolve [] := T.F_Tree_resolve.bindsN fun _ _ _ _ _ _ us hl => match us, hl with | [_, _], _ => rfl
theorem k_Tree_resolve (T : Tp w K mg φ) : PySem.W.keepIn K (.ref (He.ma K (He.ga K "Tree") "resolve")) = true := T.F_Tree_resolve.kp
theorem F_Tree_twin (T : Tp w K mg φ) : FunD K "twin" "Tree.twin" (defArgs s_Tree_twin) (defBody s_Tree_twin) (defScope s_Tree_twin) [] [] (He.ma K (He.ga K "Tree") "twin") (φ ("Tree", some "twin")) := T.fn 54 d_Tree_twin rfl
theorem b_Tree_twin (T : Tp w K mg φ) : Binds K (φ ("Tree", some "twin")) P_Tree_twin [] := T.F_Tree_twin.bindsN fun _ _ _ _ _ _ us hl => match us, hl with | [_], _ => rfl
theorem k_Tree_twin (T : Tp w K mg φ) : PySem.W.keepIn K (.ref (He.ma K (He.ga K "Tree") "twin")) = true := T.F_Tree_twin.kp
theorem F_law_cell (T : Tp w K mg φ) : FunD K "_law_cell" "_law_cell" (defArgs s_law_cell) (defBody s_law_cell) (defScope s_law_cell) [] [] (He.ga K "_law_cell") (φ ("_law_cell", none)) := T.fn 55 d_law_cell rfl
theorem b_law_cell (T : Tp w K mg φ) : Binds K (φ ("_law_cell", none)) P_law_cell [] := T.F_law_cell.bindsN fun _ _ _ _ _ _ us hl => match us, hl with | [_, _], _ => rfl
theorem k_law_cell (T : Tp w K mg φ) : PySem.W.keepIn K (.ref (He.ga K "_law_cell")) = true := T.F_law_cell.kp
theorem F_law_draws (T : Tp w K mg φ) : FunD K "_law_draws" "_law_draws" (defArgs s_law_draws) (defBody s_law_draws) (defScope s_law_draws) [] [] (He.ga K "_law_draws") (φ ("_law_draws", none)) := T.fn 56 d_law_draws rfl
theorem b_law_draws (T : Tp w K mg φ) : Binds K (φ ("_law_draws", none)) P_law_draws [] := T.F_law_draws.bindsN fun _ _ _ _ _ _ us hl => match us, hl with | [_, _, _], _ => rfl
theorem k_law_draws (T : Tp w K mg φ) : PySem.W.keepIn K (.ref (He.ga K "_law_draws")) = true := T.F_law_draws.kp
theorem F_law_take (T : Tp w K mg φ) : FunD K "_law_take" "_law_take" (defArgs s_law_take) (defBody s_law_take) (defScope s_law_take) [] [] (He.ga K "_law_take") (φ ("_law_take", none)) := T.fn 57 d_law_take rfl
theorem b_law_take (T : Tp w K mg φ) : Binds K (φ ("_law_take", none)) P_law_take [] := T.F_law_take.bindsN fun _ _ _ _ _ _ us hl => match us, hl with | [_, _], _ => rfl
theorem k_law_take (T : Tp w K mg φ) : PySem.W.keepIn K (.ref (He.ga K "_law_take")) = true := T.F_law_take.kp
theorem F_law_term (T : Tp w K mg φ) : FunD K "_law_term" "_law_term" (defArgs s_law_term) (defBody s_law_term) (defScope s_law_term) [] [] (He.ga K "_law_term") (φ ("_law_term", none)) := T.fn 58 d_law_term rfl
theorem b_law_term (T : Tp w K mg φ) : Binds K (φ ("_law_term", none)) P_law_term [] := T.F_law_term.bindsN fun _ _ _ _ _ _ us hl => match us, hl with | [_, _, _], _ => rfl
theorem k_law_term (T : Tp w K mg φ) : PySem.W.keepIn K (.ref (He.ga K "_law_term")) = true := T.F_law_term.kp
theorem F_law_expression (T : Tp w K mg φ) : FunD K "_law_expression" "_law_expression" (defArgs s_law_expression) (defBody s_law_expression) (defScope s_law_expression) [] [] (He.ga K "_law_expression") (φ ("_law_expression", none)) := T.fn 59 d_law_expression rfl
theorem b_law_expression (T : Tp w K mg φ) : Binds K (φ ("_law_expression", none)) P_law_expression [] := T.F_law_expression.bindsN fun _ _ _ _ _ _ us hl => match us, hl with | [_, _, _], _ => rfl
theorem k_law_expression (T : Tp w K mg φ) : PySem.W.keepIn K (.ref (He.ga K "_law_expression")) = true := T.F_law_expression.kp
theorem F_law_block (T : Tp w K mg φ) : FunD K "_law_block" "_law_block" (defArgs s_law_block) (defBody s_law_block) (defScope s_law_block) [] [] (He.ga K "_law_block") (φ ("_law_block", none)) := T.fn 60 d_law_block rfl
theorem b_law_block (T : Tp w K mg φ) : Binds K (φ ("_law_block", none)) P_law_block [] := T.F_law_block.bindsN fun _ _ _ _ _ _ us hl => match us, hl with | [_, _, _, _, _], _ => rfl
theorem k_law_block (T : Tp w K mg φ) : PySem.W.keepIn K (.ref (He.ga K "_law_block")) = true := T.F_law_block.kp
theorem F_law_statement (T : Tp w K mg φ) : FunD K "_law_statement" "_law_statement" (defArgs s_law_statement) (defBody s_law_statement) (defScope s_law_statement) [] [] (He.ga K "_law_statement") (φ ("_law_statement", none)) := T.fn 61 d_law_statement rfl
theorem b_law_statement (T : Tp w K mg φ) : Binds K (φ ("_law_statement", none)) P_law_statement [] := T.F_law_statement.bindsN fun _ _ _ _ _ _ us hl => match us, hl with | [_, _, _, _, _], _ => rfl
theorem k_law_statement (T : Tp w K mg φ) : PySem.W.keepIn K (.ref (He.ga K "_law_statement")) = true := T.F_law_statement.kp
theorem F_law_rule (T : Tp w K mg φ) : FunD K "_law_rule" "_law_rule" (defArgs s_law_rule) (defBody s_law_rule) (defScope s_law_rule) [] [] (He.ga K "_law_rule") (φ ("_law_rule", none)) := T.fn 62 d_law_rule rfl
theorem b_law_rule (T : Tp w K mg φ) : Binds K (φ ("_law_rule", none)) P_law_rule [] := T.F_law_rule.bindsN fun _ _ _ _ _ _ us hl => match us, hl with | [_, _], _ => rfl
theorem k_law_rule (T : Tp w K mg φ) : PySem.W.keepIn K (.ref (He.ga K "_law_rule")) = true := T.F_law_rule.kp
theorem F_law_is_rule (T : Tp w K mg φ) : FunD K "_law_is_rule" "_law_is_rule" (defArgs s_law_is_rule) (defBody s_law_is_rule) (defScope s_law_is_rule) [] [] (He.ga K "_law_is_rule") (φ ("_law_is_rule", none)) := T.fn 63 d_law_is_rule rfl
theorem b_law_is_rule (T : Tp w K mg φ) : Binds K (φ ("_law_is_rule", none)) P_law_is_rule [] := T.F_law_is_rule.bindsN fun _ _ _ _ _ _ us hl => match us, hl with | [_, _], _ => rfl
theorem k_law_is_rule (T : Tp w K mg φ) : PySem.W.keepIn K (.ref (He.ga K "_law_is_rule")) = true := T.F_law_is_rule.kp
theorem F_law (T : Tp w K mg φ) : FunD K "law" "law" (defArgs s_law) (defBody s_law) (defScope s_law) [] [] (He.ga K "law") (φ ("law", none)) := T.fn 64 d_law rfl
theorem b_law (T : Tp w K mg φ) : Binds K (φ ("law", none)) P_law [] := T.F_law.bindsN fun _ _ _ _ _ _ us hl => match us, hl with | [_], _ => rfl
theorem k_law (T : Tp w K mg φ) : PySem.W.keepIn K (.ref (He.ga K "law")) = true := T.F_law.kp
end Tp
end
theorem sc_is_identifier : FnScope N_is_identifier P_is_identifier (defScope s_is_identifier) := ⟨rfl, rfl, rfl, by decide +kernel, rfl, by decide +kernel, by decide +kernel⟩
theorem sc_is_skipped : FnScope N_is_skipped P_is_skipped (defScope s_is_skipped) := ⟨rfl, rfl, rfl, by decide +kernel, rfl, by decide +kernel, by decide +kernel⟩
theorem sc_scan_string : FnScope N_scan_string P_scan_string (defScope s_scan_string) := ⟨rfl, rfl, rfl, by decide +kernel, rfl, by decide +kernel, by decide +kernel⟩
theorem sc_word_end : FnScope N_word_end P_word_end (defScope s_word_end) := ⟨rfl, rfl, rfl, by decide +kernel, rfl, by decide +kernel, by decide +kernel⟩
theorem sc_scan_line : FnScope N_scan_line P_scan_line (defScope s_scan_line) := ⟨rfl, rfl, rfl, by decide +kernel, rfl, by decide +kernel, by decide +kernel⟩
theorem sc_Line___init__ : FnScope N_Line___init__ P_Line___init__ (defScope s_Line___init__) := ⟨rfl, rfl, rfl, by decide +kernel, rfl, by decide +kernel, by decide +kernel⟩
theorem sc_Line_need : FnScope N_Line_need P_Line_need (defScope s_Line_need) := ⟨rfl, rfl, rfl, by decide +kernel, rfl, by decide +kernel, by decide +kernel⟩
theorem sc_Line_finish : FnScope N_Line_finish P_Line_finish (defScope s_Line_finish) := ⟨rfl, rfl, rfl, by decide +kernel, rfl, by decide +kernel, by decide +kernel⟩
theorem sc_Line_word : FnScope N_Line_word P_Line_word (defScope s_Line_word) := ⟨rfl, rfl, rfl, by decide +kernel, rfl, by decide +kernel, by decide +kernel⟩
theorem sc_Line_identifier : FnScope N_Line_identifier P_Line_identifier (defScope s_Line_identifier) := ⟨rfl, rfl, rfl, by decide +kernel, rfl, by decide +kernel, by decide +kernel⟩
theorem sc_is_sign : FnScope N_is_sign P_is_sign (defScope s_is_sign) := ⟨rfl, rfl, rfl, by decide +kernel, rfl, by decide +kernel, by decide +kernel⟩
theorem sc_parse_expression : FnScope N_parse_expression P_parse_expression (defScope s_parse_expression) := ⟨rfl, rfl, rfl, by decide +kernel, rfl, by decide +kernel, by decide +kernel⟩
theorem sc_parse_terms : FnScope N_parse_terms P_parse_terms (defScope s_parse_terms) := ⟨rfl, rfl, rfl, by decide +kernel, rfl, by decide +kernel, by decide +kernel⟩
theorem sc_parse_term : FnScope N_parse_term P_parse_term (defScope s_parse_term) := ⟨rfl, rfl, rfl, by decide +kernel, rfl, by decide +kernel, by decide +kernel⟩
theorem sc_parse_call : FnScope N_parse_call P_parse_call (defScope s_parse_call) := ⟨rfl, rfl, rfl, by decide +kernel, rfl, by decide +kernel, by decide +kernel⟩
theorem sc_BodyReader___init__ : FnScope N_BodyReader___init__ P_BodyReader___init__ (defScope s_BodyReader___init__) := ⟨rfl, rfl, rfl, by decide +kernel, rfl, by decide +kernel, by decide +kernel⟩
theorem sc_BodyReader_next_line : FnScope N_BodyReader_next_line P_BodyReader_next_line (defScope s_BodyReader_next_line) := ⟨rfl, rfl, rfl, by decide +kernel, rfl, by decide +kernel, by decide +kernel⟩
theorem sc_BodyReader_read_block : FnScope N_BodyReader_read_block P_BodyReader_read_block (defScope s_BodyReader_read_block) := ⟨rfl, rfl, rfl, by decide +kernel, rfl, by decide +kernel, by decide +kernel⟩
theorem sc_BodyReader_read_statement : FnScope N_BodyReader_read_statement P_BodyReader_read_statement (defScope s_BodyReader_read_statement) := ⟨rfl, rfl, rfl, by decide +kernel, rfl, by decide +kernel, by decide +kernel⟩
theorem sc_BodyReader_read_put : FnScope N_BodyReader_read_put P_BodyReader_read_put (defScope s_BodyReader_read_put) := ⟨rfl, rfl, rfl, by decide +kernel, rfl, by decide +kernel, by decide +kernel⟩
theorem sc_BodyReader_read_if : FnScope N_BodyReader_read_if P_BodyReader_read_if (defScope s_BodyReader_read_if) := ⟨rfl, rfl, rfl, by decide +kernel, rfl, by decide +kernel, by decide +kernel⟩
theorem sc_BodyReader_read_each : FnScope N_BodyReader_read_each P_BodyReader_read_each (defScope s_BodyReader_read_each) := ⟨rfl, rfl, rfl, by decide +kernel, rfl, by decide +kernel, by decide +kernel⟩
theorem sc_read_expression : FnScope N_read_expression P_read_expression (defScope s_read_expression) := ⟨rfl, rfl, rfl, by decide +kernel, rfl, by decide +kernel, by decide +kernel⟩
theorem sc_is_name : FnScope N_is_name P_is_name (defScope s_is_name) := ⟨rfl, rfl, rfl, by decide +kernel, rfl, by decide +kernel, by decide +kernel⟩
theorem sc_is_path : FnScope N_is_path P_is_path (defScope s_is_path) := ⟨rfl, rfl, rfl, by decide +kernel, rfl, by decide +kernel, by decide +kernel⟩
theorem sc_is_pattern : FnScope N_is_pattern P_is_pattern (defScope s_is_pattern) := ⟨rfl, rfl, rfl, by decide +kernel, rfl, by decide +kernel, by decide +kernel⟩
theorem sc_Rule___init__ : FnScope N_Rule___init__ P_Rule___init__ (defScope s_Rule___init__) := ⟨rfl, rfl, rfl, by decide +kernel, rfl, by decide +kernel, by decide +kernel⟩
theorem sc_Rule___eq__ : FnScope N_Rule___eq__ P_Rule___eq__ (defScope s_Rule___eq__) := ⟨rfl, rfl, rfl, by decide +kernel, rfl, by decide +kernel, by decide +kernel⟩
theorem sc_Rule_is_pattern : FnScope N_Rule_is_pattern P_Rule_is_pattern (defScope s_Rule_is_pattern) := ⟨rfl, rfl, rfl, by decide +kernel, rfl, by decide +kernel, by decide +kernel⟩
theorem sc_Book___init__ : FnScope N_Book___init__ P_Book___init__ (defScope s_Book___init__) := ⟨rfl, rfl, rfl, by decide +kernel, rfl, by decide +kernel, by decide +kernel⟩
theorem sc_recipe_text : FnScope N_recipe_text P_recipe_text (defScope s_recipe_text) := ⟨rfl, rfl, rfl, by decide +kernel, rfl, by decide +kernel, by decide +kernel⟩
theorem sc_BookReader___init__ : FnScope N_BookReader___init__ P_BookReader___init__ (defScope s_BookReader___init__) := ⟨rfl, rfl, rfl, by decide +kernel, rfl, by decide +kernel, by decide +kernel⟩
theorem sc_BookReader_read_file : FnScope N_BookReader_read_file P_BookReader_read_file (defScope s_BookReader_read_file) := ⟨rfl, rfl, rfl, by decide +kernel, rfl, by decide +kernel, by decide +kernel⟩
theorem sc_BookReader_read_line : FnScope N_BookReader_read_line P_BookReader_read_line (defScope s_BookReader_read_line) := ⟨rfl, rfl, rfl, by decide +kernel, rfl, by decide +kernel, by decide +kernel⟩
theorem sc_BookReader_read_setting : FnScope N_BookReader_read_setting P_BookReader_read_setting (defScope s_BookReader_read_setting) := ⟨rfl, rfl, rfl, by decide +kernel, rfl, by decide +kernel, by decide +kernel⟩
theorem sc_BookReader_read_use : FnScope N_BookReader_read_use P_BookReader_read_use (defScope s_BookReader_read_use) := ⟨rfl, rfl, rfl, by decide +kernel, rfl, by decide +kernel, by decide +kernel⟩
theorem sc_BookReader_is_output : FnScope N_BookReader_is_output P_BookReader_is_output (defScope s_BookReader_is_output) := ⟨rfl, rfl, rfl, by decide +kernel, rfl, by decide +kernel, by decide +kernel⟩
theorem sc_BookReader_read_outputs : FnScope N_BookReader_read_outputs P_BookReader_read_outputs (defScope s_BookReader_read_outputs) := ⟨rfl, rfl, rfl, by decide +kernel, rfl, by decide +kernel, by decide +kernel⟩
theorem sc_BookReader_check_output : FnScope N_BookReader_check_output P_BookReader_check_output (defScope s_BookReader_check_output) := ⟨rfl, rfl, rfl, by decide +kernel, rfl, by decide +kernel, by decide +kernel⟩
theorem sc_read_inputs : FnScope N_read_inputs P_read_inputs (defScope s_read_inputs) := ⟨rfl, rfl, rfl, by decide +kernel, rfl, by decide +kernel, by decide +kernel⟩
theorem sc_parse_book : FnScope N_parse_book P_parse_book (defScope s_parse_book) := ⟨rfl, rfl, rfl, by decide +kernel, rfl, by decide +kernel, by decide +kernel⟩
theorem sc_is_text_code : FnScope N_is_text_code P_is_text_code (defScope s_is_text_code) := ⟨rfl, rfl, rfl, by decide +kernel, rfl, by decide +kernel, by decide +kernel⟩
theorem sc_is_text : FnScope N_is_text P_is_text (defScope s_is_text) := ⟨rfl, rfl, rfl, by decide +kernel, rfl, by decide +kernel, by decide +kernel⟩
theorem sc_is_content : FnScope N_is_content P_is_content (defScope s_is_content) := ⟨rfl, rfl, rfl, by decide +kernel, rfl, by decide +kernel, by decide +kernel⟩
theorem sc_Tree___init__ : FnScope N_Tree___init__ P_Tree___init__ (defScope s_Tree___init__) := ⟨rfl, rfl, rfl, by decide +kernel, rfl, by decide +kernel, by decide +kernel⟩
theorem sc_Tree_write : FnScope N_Tree_write P_Tree_write (defScope s_Tree_write) := ⟨rfl, rfl, rfl, by decide +kernel, rfl, by decide +kernel, by decide +kernel⟩
theorem sc_Tree_link : FnScope N_Tree_link P_Tree_link (defScope s_Tree_link) := ⟨rfl, rfl, rfl, by decide +kernel, rfl, by decide +kernel, by decide +kernel⟩
theorem sc_Tree_is_personal : FnScope N_Tree_is_personal P_Tree_is_personal (defScope s_Tree_is_personal) := ⟨rfl, rfl, rfl, by decide +kernel, rfl, by decide +kernel, by decide +kernel⟩
theorem sc_Tree_check_room : FnScope N_Tree_check_room P_Tree_check_room (defScope s_Tree_check_room) := ⟨rfl, rfl, rfl, by decide +kernel, rfl, by decide +kernel, by decide +kernel⟩
theorem sc_Tree_kind : FnScope N_Tree_kind P_Tree_kind (defScope s_Tree_kind) := ⟨rfl, rfl, rfl, by decide +kernel, rfl, by decide +kernel, by decide +kernel⟩
theorem sc_Tree_read : FnScope N_Tree_read P_Tree_read (defScope s_Tree_read) := ⟨rfl, rfl, rfl, by decide +kernel, rfl, by decide +kernel, by decide +kernel⟩
theorem sc_Tree_writer : FnScope N_Tree_writer P_Tree_writer (defScope s_Tree_writer) := ⟨rfl, rfl, rfl, by decide +kernel, rfl, by decide +kernel, by decide +kernel⟩
theorem sc_Tree_target : FnScope N_Tree_target P_Tree_target (defScope s_Tree_target) := ⟨rfl, rfl, rfl, by decide +kernel, rfl, by decide +kernel, by decide +kernel⟩
theorem sc_Tree_resolve : FnScope N_Tree_resolve P_Tree_resolve (defScope s_Tree_resolve) := ⟨rfl, rfl, rfl, by decide +kernel, rfl, by decide +kernel, by decide +kernel⟩
theorem sc_Tree_twin : FnScope N_Tree_twin P_Tree_twin (defScope s_Tree_twin) := ⟨rfl, rfl, rfl, by decide +kernel, rfl, by decide +kernel, by decide +kernel⟩
theorem sc_law_cell : FnScope N_law_cell P_law_cell (defScope s_law_cell) := ⟨rfl, rfl, rfl, by decide +kernel, rfl, by decide +kernel, by decide +kernel⟩
theorem sc_law_draws : FnScope N_law_draws P_law_draws (defScope s_law_draws) := ⟨rfl, rfl, rfl, by decide +kernel, rfl, by decide +kernel, by decide +kernel⟩
theorem sc_law_take : FnScope N_law_take P_law_take (defScope s_law_take) := ⟨rfl, rfl, rfl, by decide +kernel, rfl, by decide +kernel, by decide +kernel⟩
theorem sc_law_term : FnScope N_law_term P_law_term (defScope s_law_term) := ⟨rfl, rfl, rfl, by decide +kernel, rfl, by decide +kernel, by decide +kernel⟩
theorem sc_law_expression : FnScope N_law_expression P_law_expression (defScope s_law_expression) := ⟨rfl, rfl, rfl, by decide +kernel, rfl, by decide +kernel, by decide +kernel⟩
theorem sc_law_block : FnScope N_law_block P_law_block (defScope s_law_block) := ⟨rfl, rfl, rfl, by decide +kernel, rfl, by decide +kernel, by decide +kernel⟩
theorem sc_law_statement : FnScope N_law_statement P_law_statement (defScope s_law_statement) := ⟨rfl, rfl, rfl, by decide +kernel, rfl, by decide +kernel, by decide +kernel⟩
theorem sc_law_rule : FnScope N_law_rule P_law_rule (defScope s_law_rule) := ⟨rfl, rfl, rfl, by decide +kernel, rfl, by decide +kernel, by decide +kernel⟩
theorem sc_law_is_rule : FnScope N_law_is_rule P_law_is_rule (defScope s_law_is_rule) := ⟨rfl, rfl, rfl, by decide +kernel, rfl, by decide +kernel, by decide +kernel⟩
theorem sc_law : FnScope N_law P_law (defScope s_law) := ⟨rfl, rfl, rfl, by decide +kernel, rfl, by decide +kernel, by decide +kernel⟩
end Ky

namespace Ky
open PySem PySem.Spec PyProof.Rows L2
abbrev R : PySem.W.OpenRow := PySem.W.OpenLaw.row PySem.Challenge.rw_kilnyard_k14_whole_books_are_read
abbrev hk : PySem.W.Hook := He.hookX 5 fa fn ts [] exH
def ob (s : PySem.W.SharedT) : He.AlX := He.obsX 5 fa fn ts [] exH (HandSHeadRun.getT s)
theorem ob_eq (s : PySem.W.SharedT) : ob s = hk.obs s.abs := He.obsX_eq (HandSHeadRun.getT_eq s)
def namesA : List PySem.Str := (["_wall", "BuildError", "InvalidPath", "InvalidContent", "TreeFull", "InvalidRecipe", "SIGNS", "ESCAPES"] : List PySem.Str) ++ (["LETTERS", "IDENTIFIER_LIMIT", "is_identifier", "is_skipped", "scan_string", "word_end", "scan_line", "Line"] : List PySem.Str) ++ (["CALL_LIMIT", "ARGUMENTS", "BadToken", "is_sign", "parse_expression", "parse_terms", "parse_term", "parse_call"] : List PySem.Str) ++ (["STATEMENT_LIMIT", "BLOCK_LIMIT", "STATEMENTS", "BodyReader", "read_expression", "NAME_CHARACTERS", "NAME_LIMIT", "PATH_LIMIT"] : List PySem.Str)
def namesB : List PySem.Str := (["is_name", "is_path", "is_pattern", "is_pattern_paths", "FIRST_FILE", "FILE_LIMIT", "RULE_LIMIT", "OUTPUT_LIMIT"] : List PySem.Str) ++ (["INPUT_LIMIT", "Rule", "Book", "recipe_text", "BookReader", "read_inputs", "parse_book", "CONTENT_LIMIT"] : List PySem.Str) ++ (["is_text_code", "is_text", "is_content", "ENTRY_LIMIT", "LINK_LIMIT", "Tree", "_law_cell", "_law_draws"] : List PySem.Str) ++ (["_law_take", "_law_term", "_law_expression", "_law_block", "_law_statement", "_law_rule", "_law_is_rule"] : List PySem.Str)
theorem runF (w : World) : HandSHeadRun.RunEq R (PySem.W.view R.prog [72]) hk ob 6000 (namesA ++ namesB) (w.withFollow "special-get-raises" false) := by
  intro os
  kernel_rfl
theorem runT (w : World) : HandSHeadRun.RunEq R (PySem.W.view R.prog [72]) hk ob 6000 (namesA ++ namesB) (w.withFollow "special-get-raises" true) := by
  intro os
  kernel_rfl
theorem run (w : World) : HandSHeadRun.RunEq R (PySem.W.view R.prog [72]) hk ob 6000 (namesA ++ namesB) w := PySem.W.byRow2 "special-get-raises" runF runT w
end Ky

/-! Texts as lists of codes; tokens; what a line's tokens are. -/
namespace Ky
open PySem PySem.Spec PyProof.Rows L2 TL

abbrev S (l : List Nat) : Str := ⟨l.toArray⟩
theorem S_tl (z : Str) : S (tl z) = z := mk_tl z
theorem S_app (a b : List Nat) : S a ++ S b = S (a ++ b) := ext_tl (by rw [tl_append] <;> rfl)
theorem len_S (l : List Nat) : (S l).length = l.length := by rw [len_tl]
theorem S_inj {a b : List Nat} (h : S a = S b) : a = b := congrArg tl h

/-! ### lstrip(' '), startswith('#') -/
def skp (l : List Nat) : Bool := match l.dropWhile (· == 32) with
  | [] => true
  | c :: _ => c == 35
theorem drop_takeWhile (p : Nat → Bool) : ∀ l : List Nat, l.drop (l.takeWhile p).length = l.dropWhile p
  | [] => rfl
  | c :: r => by
    rw [List.takeWhile_cons, List.dropWhile_cons]
    by_cases h : p c = true
    · rw [if_pos h, if_pos h]
      exact drop_takeWhile p r
    · rw [if_neg h, if_neg h] <;> rfl
theorem sp_contains : (fun c => ((" " : Str).cps.contains c)) = (fun c : Nat => c == 32) := by
  funext c
  have e : (" " : Str).cps = #[32] := by decide +kernel
  rw [e]
  by_cases h : c = 32 <;> simp [h]
theorem tl_lstrip (z : Str) : tl (Txt.lstripChars z " ") = (tl z).dropWhile (· == 32) := by
  unfold Txt.lstripChars
  rw [stripBy_eq]
  show tl (Builtin.Str.strSub z (PySem.stripLo _ true z) z.length) = _
  rw [tl_strSub_end]
  show (tl z).drop ((tl z).takeWhile (fun c => (" " : Str).cps.contains c)).length = _
  rw [sp_contains, drop_takeWhile]
theorem sw_one (z : Str) (c : Nat) : Txt.startswith z (S [c]) = decide ((tl z).head? = some c) := by
  unfold Txt.startswith Builtin.Str.subAt
  have e1 : (S [c]).length = 1 := rfl
  rw [e1]
  cases h : tl z with
  | nil =>
    have h0 : z.length = 0 := (len0_tl z).mpr h
    simp [h0]
  | cons d r =>
    have h0 : z.length = r.length + 1 := by rw [len_tl, h, List.length_cons]
    have h1 : z.cps.extract 0 (0 + 1) = #[d] := by
      apply Array.ext'
      rw [Array.toList_extract]
      show (List.extract (tl z) 0 (0 + 1)) = _
      rw [h]
      simp [List.extract]
    rw [h1]
    by_cases hc : d = c
    · subst hc
      simp [h0]
    · simp [hc]

/-! ### tokens -/
structure Tk where
  k : Str
  z : Str
abbrev tW (z : Str) : Tk := ⟨"word", z⟩
abbrev tQ (l : List Nat) : Tk := ⟨"string", S l⟩
abbrev tG (c : Nat) : Tk := ⟨"sign", S [c]⟩
def sgn : List Nat := [40, 41, 44, 43]
/-- a sign of a word -/
def isW (c : Nat) : Bool := !decide (c ∈ ([32, 34, 40, 41, 44, 43] : List Nat))
inductive Esc : Nat → Nat → Prop
  | n : Esc 110 10
  | q : Esc 34 34
  | b : Esc 92 92
/-- within a string: what is written, what it says -/
inductive SLx : List Nat → List Nat → Prop
  | nil : SLx [] []
  | chr {c : Nat} {s t : List Nat} : c ≠ 34 → c ≠ 92 → SLx s t → SLx (c :: s) (c :: t)
  | esc {c e : Nat} {s t : List Nat} : Esc c e → SLx s t → SLx (92 :: c :: s) (e :: t)
def Stop (l : List Nat) : Prop := ∀ c r, l = c :: r → isW c = false
/-- a text and its tokens -/
inductive Lx : List Nat → List Tk → Prop
  | nil : Lx [] []
  | sp {r : List Nat} {ts : List Tk} : Lx r ts → Lx (32 :: r) ts
  | sg {c : Nat} {r : List Nat} {ts : List Tk} : c ∈ sgn → Lx r ts → Lx (c :: r) (tG c :: ts)
  | str {s t r : List Nat} {ts : List Tk} : SLx s t → Lx r ts → Lx (34 :: (s ++ 34 :: r)) (tQ t :: ts)
  | word {w r : List Nat} {ts : List Tk} : w ≠ [] → (∀ c ∈ w, isW c = true) → Stop r → Lx r ts → Lx (w ++ r) (tW (S w) :: ts)
/-- a line and its tokens -/
def LL (l : List Nat) (ts : List Tk) : Prop := (skp l = true ∧ ts = []) ∨ (skp l = false ∧ Lx l ts)

theorem Stop.nil : Stop [] := fun _ _ h => nomatch h
theorem Stop.cons {c : Nat} {r : List Nat} (h : isW c = false) : Stop (c :: r) := fun _ _ e => by
  injection e with e1 _
  rw [← e1]
  exact h
theorem Stop.app {a b : List Nat} (ha : Stop a) (hb : Stop b) : Stop (a ++ b) := by
  cases a with
  | nil => exact hb
  | cons c r => exact .cons (ha c r rfl)
/-- two texts in a row, where the second does not go on with a word -/
theorem Lx.app {a : List Nat} {ta : List Tk} (ha : Lx a ta) {b : List Nat} {tb : List Tk} (hb : Lx b tb) (hs : Stop b) : Lx (a ++ b) (ta ++ tb) := by
  induction ha with
  | nil => exact hb
  | sp _ ih => exact .sp ih
  | sg h _ ih => exact .sg h ih
  | @str s t r ts h _ ih =>
    have e : (34 :: (s ++ 34 :: r)) ++ b = 34 :: (s ++ 34 :: (r ++ b)) := by simp
    rw [e]
    exact .str h ih
  | @word w r ts h1 h2 h3 _ ih =>
    rw [List.append_assoc]
    exact .word h1 h2 (h3.app hs) ih
theorem SLx.app {a b s t : List Nat} (ha : SLx a s) (hb : SLx b t) : SLx (a ++ b) (s ++ t) := by
  induction ha with
  | nil => exact hb
  | chr h1 h2 _ ih => exact .chr h1 h2 ih
  | esc h _ ih => exact .esc h ih

/-! ### slices -/
theorem cutS_nat (z : Str) {a b : Nat} (h1 : a ≤ b) (h2 : b ≤ z.length) : cutS z (some (a : Int)) (some (b : Int)) = S (((tl z).drop a).take (b - a)) := by
  unfold cutS
  rw [HT.sIx_nat, HT.sIx_nat, Nat.min_eq_left (Nat.le_trans h1 h2), Nat.min_eq_left h2]
/-- the sign at a place -/
theorem at_cons {z : Str} {p r : List Nat} {c : Nat} (h : tl z = p ++ c :: r) : atI z.cps.toList (p.length : Int) = some c := by
  refine atI_nat ?_
  show (tl z)[p.length]? = some c
  rw [h]
  simp
theorem join_chars (l : List Nat) : Txt.join ("" : Str) (l.map fun c => S [c]) = S l := by
  refine ext_tl ?_
  rw [join_eq, tl_join]
  have e : tl ("" : Str) = [] := by decide +kernel
  rw [e, List.map_map]
  show joinL [] (l.map fun c => [c]) = l
  have g : ∀ m : List Nat, joinL [] (m.map fun c => [c]) = m := by
    intro m
    induction m with
    | nil => rfl
    | cons c r ih =>
      cases r with
      | nil => rfl
      | cons d q =>
        show [c] ++ ([] ++ joinL [] ((d :: q).map fun c => [c])) = c :: d :: q
        rw [ih]
        rfl
  exact g l

/-! ### identifiers -/
def isLet (c : Nat) : Bool := decide (97 ≤ c ∧ c ≤ 122)
def letL : List Nat := tl ("abcdefghijklmnopqrstuvwxyz" : Str)
def idnL : List Nat := tl (("abcdefghijklmnopqrstuvwxyz" : Str) ++ ("0123456789_" : Str))
/-- an identifier -/
def idn (l : List Nat) : Bool := decide (1 ≤ l.length ∧ l.length ≤ 12) && (match l with
  | [] => false
  | c :: _ => decide (c ∈ letL)) && l.all fun c => decide (c ∈ idnL)

/-! ### heaps -/
theorem same_new {H : Hp} {p : Addr} (h : H p = none) (o : HO) : Same H (upd H p o) := fun b u q => by
  rw [upd_ne (ne_of_none q h)]
  exact q
/-- an object that stood not at the start may change -/
theorem Same.mut {H H' : Hp} {p : Addr} {o : HO} (e : Same H H') (h : H p = none) : Same H (upd H' p o) := fun b u q => by
  rw [upd_ne (ne_of_none q h)]
  exact e b u q
theorem Same.sqt {K : PySem.W.Frag} {H H' : Hp} {a : Addr} {xs : List V} (e : Same H H') (h : SqT K H a xs) : SqT K H' a xs := by
  rcases h with (h | ⟨o, h⟩) | h
  · exact .inl (.inl (e _ _ h))
  · exact .inl (.inr ⟨o, e _ _ h⟩)
  · exact .inr h
theorem sz {n : Nat} (h : n ≤ 100000) : n ≤ sizeLine := Nat.le_trans h (by decide)
theorem szl {n : Nat} (h : n ≤ 100000) : n < sizeLine := Nat.lt_of_le_of_lt h (by decide)
end Ky

/-! The scanner's defs. -/
namespace Ky
open PySem PySem.Spec PyProof.Rows L2 TL
/-! ### helpers -/
abbrev chV (c : Nat) : V := .str (S [c])
section
variable {P : Program} {w : World} {K : PySem.W.Frag} {mg : Str → Option Value} {base : Heap} {φ : Str × Option Str → FuncData}
theorem okF {x qual : Str} {params : Arguments} {body : List Stmt} {scope : Scope} {dvs : List V} {kws : List (Str × V)} {f : Addr} {fd : FuncData} {N ps : List Str} {k : Nat} {sp : Sp}
    (F : FunD K x qual params body scope dvs kws f fd) (S : FnScope N ps scope) (len : ∀ vs H Q E, sp vs H Q E → vs.length = ps.length)
    (hbody : ∀ (cdv : Value) (A : Around) (outer : List Env) (s : Shared) (H : Hp) (vs : List V) (Q : VK) (E : XK), Room k (A.deeper (envOfC qual scope s.heap.objs.size f cdv)) → sp vs H Q E →
      ∃ t, PSs (cxOf CX0 P w K mg base N qual scope f cdv A outer s H E).nox body t ∧ t { nx := fun _ H' => Q .non H', rt := Q } (start N vs) H) : FnOk P w K mg base CX0 (k + 1) f fd ps sp :=
  F.ok S len fun cdv A outer s H vs Q E hr h => by
    obtain ⟨t, h1, h2⟩ := hbody cdv A outer s H vs Q E hr h
    exact ⟨t, h1.nox, h2⟩

theorem pe_gint {X : Cx} {x : Str} {i : Int} {pos : Pos} (hm : ∃ t, X.mg x = some (.int i t)) (hg : Gl X x := by rfl) (hd : (x == ("__debug__" : Str)) = false := by decide) : PE X (.Name x pos) (tC (.int i)) := by
  obtain ⟨t, e⟩ := hm
  exact pe_glob hg e ⟨t, rfl⟩ hd
theorem pe_gstr {X : Cx} {x z : Str} {pos : Pos} (hm : ∃ t, X.mg x = some (.str z t)) (hg : Gl X x := by rfl) (hd : (x == ("__debug__" : Str)) = false := by decide) : PE X (.Name x pos) (tC (.str z)) := by
  obtain ⟨t, e⟩ := hm
  exact pe_glob hg e ⟨t, rfl⟩ hd

theorem pe_gref {X : Cx} {x : Str} {a : Addr} {pos : Pos} (hm : X.mg x = some (.ref a)) (hg : Gl X x := by rfl) (hd : (x == ("__debug__" : Str)) = false := by decide) : PE X (.Name x pos) (tC (.ref a)) := pe_glob hg hm (v := .ref a) rfl hd
theorem itT {c : Bool} {A B : Prop} (h : c = true) (a : A) : if c = true then A else B := by
  rw [if_pos h]
  exact a
theorem itF {c : Bool} {A B : Prop} (h : c = false) (b : B) : if c = true then A else B := by
  rw [if_neg (by rw [h]; exact Bool.false_ne_true)]
  exact b
theorem it2 {c : Bool} {A B : Prop} (h1 : c = true → A) (h2 : c = false → B) : if c = true then A else B := by
  cases c with
  | true => exact h1 rfl
  | false => exact h2 rfl


/-! ### a comprehension over a text, its element a bool of the sign -/
theorem lc_strb {vs : List Nat} {i j : Nat} {σ : L2.St} {H : Hp} {Q : VK} {te : TE} {z : Str} (f : Nat → Bool) (hi : σ[i]? = some (some (.str z))) (hz : z.length ≤ 100000)
    (hw : ∀ x, wipe ((wipe σ vs).set j (some x)) vs = wipe σ vs)
    (he : ∀ c ∈ tl z, ∀ (H2 : Hp) (Q2 : VK), Q2 (.bl (f c)) H2 → te ((wipe σ vs).set j (some (chV c))) H2 Q2)
    (hq : ∀ D H', H D = none → Same H H' → H' D = some (.lst (((tl z).map f).map V.bl)) → Q (.ref D) H') : tLc (iStr (tVar i)) (gName j) tYes te vs σ H Q := by
  refine ⟨_, hi, z, rfl, fun D hD => ?_⟩
  refine lc_it (n := (tl z).length) walk_str (fun k H' => Same H H' ∧ H' D = some (.lst (((((tl z).take k)).map f).map V.bl))) ⟨same_new hD _, upd_same⟩ (fun _ _ _ _ => trivial) ?_ ?_
  · rintro k x H1 H2 hk ⟨s1, d1⟩ ⟨rfl, c, hc, rfl⟩
    have hc' : (tl z)[k]? = some c := by rw [← hc]; simp
    have hm : c ∈ tl z := List.mem_of_getElem? hc'
    refine ⟨hw _, ?_⟩
    dsimp only [tYes]
    rw [if_pos rfl]
    refine (he c hm _ _ ⟨_, d1, ?_, Same.mut s1 hD, ?_⟩)
    · have := len_tl z
      rw [List.length_map, List.length_map, List.length_take]
      exact szl (by omega)
    · rw [upd_same]
      have e : (tl z).take (k + 1) = (tl z).take k ++ [c] := by rw [List.take_add_one, hc']; rfl
      rw [e, List.map_append, List.map_append]
      rfl
  · rintro H1 ⟨s1, d1⟩
    rw [List.take_length] at d1
    exact hq D H1 hD s1 d1

/-! ### identifiers -/
def spIdn : Sp := fun vs H Q _ => ∃ z : Str, vs = [.str z] ∧ idn (tl z) = true ∧ ∀ H', Same H H' → Q (.bl true) H'
theorem ok_is_identifier (T : Tp w K mg φ) : FnOk P w K mg base CX0 1 (He.ga K "is_identifier") (φ ("is_identifier", none)) P_is_identifier spIdn := by
  refine okF T.F_is_identifier sc_is_identifier (fun vs H Q E h => ?_) (fun cdv A outer s H vs Q E hr h => ?_)
  · obtain ⟨z, rfl, _⟩ := h
    rfl
  obtain ⟨z, rfl, hz, k⟩ := h
  have nd := sc_is_identifier.nd
  refine ⟨_, 
    (pss_cons (ps_if (PW.pt (pw_or (pt_cmpR op_lt (pe_callB call_len_str (by rfl) T.z_len (by decide +kernel) (pa_cons (pv 0) pa_nil)) pe_int (nomark _)) (pw_or (pt_cmpR op_gt (pe_callB call_len_str (by rfl) T.z_len (by decide +kernel) (pa_cons (pv 0) pa_nil)) (pe_gint T.i_IDENTIFIER_LIMIT) (nomark _)) (pw_or1 (pt_cmpR op_notIn_sign (pe_ix ix_str (pv 0) pe_int (fun _ _ => rfl)) (pe_gstr T.s_LETTERS) (by rfl)))))) 
      (pss_one (ps_ret pe_bl)) pss_nil)
    (pss_one (ps_ret (pe_callB (cr_all rfl) (by rfl) T.z_all (by decide +kernel) (pa_cons (pe_lc (own := [("char", 1)]) (g := gName 1) rfl nd (pi_str (pv 0)) (blkOk_by (own := [("char", 1)]) (N := N_is_identifier) (sc := defScope s_is_identifier) (by decide +kernel)) (fun _ _ _ _ _ => pg_name (i := 1) nd rfl (Or.inl rfl)) (fun _ _ _ _ _ => pts_nil) (fun _ _ _ _ _ => (pe_cmpR op_in_sign (pv 1) (pe_op op_add_str (pe_gstr T.s_LETTERS) pe_str) (by rfl)))) pa_nil))))), ?_⟩
  unfold idn at hz
  obtain ⟨h12, h3⟩ := Bool.and_eq_true_iff.mp hz
  obtain ⟨h1, h2⟩ := Bool.and_eq_true_iff.mp h12
  have hl := of_decide_eq_true h1
  rw [← len_tl] at hl
  have hs : z.length ≤ sizeLine := sz (by omega)
  obtain ⟨c, r, hc⟩ : ∃ c r, tl z = c :: r := by
    cases e : tl z with
    | nil => rw [len_tl, e] at hl; exact absurd hl.1 (by decide)
    | cons c r => exact ⟨c, r, rfl⟩
  rw [hc] at h2
  have h2' : decide (c ∈ letL) = true := h2
  refine ⟨_, rfl, z, rfl, hs, _, _, rfl, rfl, _, rfl, itF (decide_eq_false (by omega)) ?_⟩
  refine ⟨_, rfl, z, rfl, hs, _, _, rfl, rfl, _, rfl, itF (decide_eq_false (by omega)) ?_⟩
  refine ⟨_, rfl, z, 0, c, rfl, rfl, hs, at_cons (p := []) hc, c, _, rfl, rfl, _, rfl, itF ?_ ?_⟩
  · show (!decide (c ∈ letL)) = false
    rw [h2'] <;> rfl
  dsimp only [tNext, tRet, tCB, tCons, tNil]
  refine lc_strb (vs := [1]) (i := 0) (j := 1) (z := z) (σ := [some (.str z), none]) (fun c => decide (c ∈ idnL)) rfl (by omega) (fun _ => rfl) ?_ ?_
  · intro c hc H2 Q2 q
    exact ⟨_, rfl, _, _, rfl, rfl, by decide +kernel, c, _, rfl, rfl, q⟩
  · intro D H' hD s1 d1
    refine ⟨D, _, rfl, SqL.of d1, ?_⟩
    have e : ((tl z).map fun c => decide (c ∈ idnL)).all id = true := by
      rw [List.all_map]
      exact h3
    rw [e]
    exact k H' s1

/-! ### what is skipped -/
def spSkip : Sp := fun vs H Q _ => ∃ z : Str, vs = [.str z] ∧ z.length ≤ 1000 ∧ Q (.bl (skp (tl z))) H
theorem ok_is_skipped (T : Tp w K mg φ) : FnOk P w K mg base CX0 1 (He.ga K "is_skipped") (φ ("is_skipped", none)) P_is_skipped spSkip := by
  refine okF T.F_is_skipped sc_is_skipped (fun vs H Q E h => ?_) (fun cdv A outer s H vs Q E hr h => ?_)
  · obtain ⟨z, rfl, _⟩ := h
    rfl
  obtain ⟨z, rfl, hz, k⟩ := h
  have nd := sc_is_skipped.nd
  refine ⟨_, 
    (pss_cons (ps_set (i := 1) nd rfl (Or.inl rfl) (pe_bm PySem.F.plainAttrs_str PySem.F.slot_str_lstrip PySem.F.type_str_lstrip mt_lstripChars (pv 0) (pa_cons pe_str pa_nil)))
    (pss_one (ps_ret (pe_or (pe_cmpR op_eq (pv 1) pe_str (nomark _)) (pe_one (pe_m1 PySem.F.slot_str_startswith PySem.F.type_str_startswith mt_startswith (pv 1) pe_str)))))), ?_⟩
  refine ⟨_, rfl, rfl, _, _, rfl, rfl, sz (by omega), ?_⟩
  have hd := tl_lstrip z
  unfold skp at k
  refine ⟨_, rfl, rfl, _, rfl, ?_⟩
  cases e : (tl z).dropWhile (· == 32) with
  | nil =>
    rw [e] at hd k
    have e2 : Txt.lstripChars z " " = "" := ext_tl (by rw [hd]; decide +kernel)
    refine itT (decide_eq_true (congrArg V.str e2)) k
  | cons c r =>
    rw [e] at hd k
    refine itF (decide_eq_false ?_) ⟨_, rfl, ⟨_, rfl⟩, _, _, rfl, rfl, ?_⟩
    · intro q
      have q2 : tl (Txt.lstripChars z " ") = tl ("" : Str) := congrArg tl (V.str.inj q)
      rw [hd] at q2
      have e3 : tl ("" : Str) = [] := by decide +kernel
      rw [e3] at q2
      cases q2
    · have e4 : ("#" : Str) = S [35] := ext_tl (by decide +kernel)
      have e5 : Txt.startswith (Txt.lstripChars z " ") "#" = (c == 35) := by
        rw [e4, sw_one, hd]
        by_cases h : c = 35 <;> simp [h]
      show Q (.bl (Txt.startswith (Txt.lstripChars z " ") "#")) H
      rw [e5]
      exact k

/-! ### a word's end -/
def spWend : Sp := fun vs H Q _ => ∃ (z : Str) (p v r : List Nat), vs = [.str z, .int (p.length : Nat)] ∧ tl z = p ++ (v ++ r) ∧ z.length ≤ 1000 ∧ (∀ c ∈ v, isW c = true) ∧ Stop r ∧ Q (.int (p.length + v.length : Nat)) H
theorem wd_eq : tl ((" \"" : Str) ++ ("(),+" : Str)) = [32, 34, 40, 41, 44, 43] := by decide +kernel
theorem ok_word_end (T : Tp w K mg φ) : FnOk P w K mg base CX0 1 (He.ga K "word_end") (φ ("word_end", none)) P_word_end spWend := by
  refine okF T.F_word_end sc_word_end (fun vs H Q E h => ?_) (fun cdv A outer s H vs Q E hr h => ?_)
  · obtain ⟨z, p, v, r, rfl, _⟩ := h
    rfl
  obtain ⟨z, p, v, r, rfl, hz, hl, hv, hr2, k⟩ := h
  have nd := sc_word_end.nd
  refine ⟨_, 
    (pss_cons (ps_set (i := 2) nd rfl (Or.inl rfl) (pv 1))
    (pss_cons (ps_while PassesOwn.never (PW.pt (pw_and (pt_cmpR op_lt (pv 2) (pe_callB call_len_str (by rfl) T.z_len (by decide +kernel) (pa_cons (pv 0) pa_nil)) (nomark _)) (pw_and1 (pt_cmpR op_notIn_sign (pe_ix ix_str (pv 0) (pv 2) (fun _ _ => rfl)) (pe_op op_add_str pe_str (pe_gstr T.s_SIGNS)) (by rfl))))) 
      (pss_one (ps_aug (i := 2) nd rfl (Or.inl rfl) pe_int ip_add)))
    (pss_one (ps_ret (pv 2))))), ?_⟩
  have hs : z.length ≤ sizeLine := sz (by omega)
  have hlen : z.length = p.length + v.length + r.length := by rw [len_tl, hz]; simp; omega
  refine ⟨_, rfl, ?_⟩
  refine ⟨fun m σ H' => ∃ v1 v2, v = v1 ++ v2 ∧ m = v2.length ∧ σ = [some (.str z), some (.int (p.length : Nat)), some (.int ((p.length + v1.length : Nat) : Int))] ∧ H' = H, ⟨_, [], v, rfl, rfl, rfl, rfl⟩, ?_⟩
  rintro m σ H' ⟨v1, v2, hv12, rfl, rfl, rfl⟩
  have hl2 : v.length = v1.length + v2.length := by rw [hv12, List.length_append]
  have step : ∀ (c : Nat) (q : List Nat), v2 ++ r = c :: q → atI z.cps.toList ((p.length + v1.length : Nat) : Int) = some c := fun c q e => by
    have e2 : tl z = (p ++ v1) ++ c :: q := by rw [hz, hv12, ← e]; simp
    have := at_cons e2
    rwa [List.length_append] at this
  refine ⟨_, rfl, _, rfl, z, rfl, hs, _, _, rfl, rfl, _, rfl, ?_⟩
  cases hv2 : v2 with
  | nil =>
    subst hv2
    have k2 : Q (.int ((p.length + v1.length : Nat) : Int)) H' := by
      rw [hl2] at k
      exact k
    cases hr3 : r with
    | nil =>
      subst hr3
      refine itF (decide_eq_false ?_) ?_
      · simp at hl2 hlen
        omega
      · exact ⟨_, rfl, k2⟩
    | cons c q =>
      subst hr3
      refine itT (decide_eq_true (by simp at hl2 hlen; omega)) ?_
      refine ⟨_, rfl, _, rfl, z, _, c, rfl, rfl, hs, step c q rfl, _, _, rfl, rfl, by decide +kernel, c, _, rfl, rfl, _, rfl, ?_⟩
      refine itF ?_ ⟨_, rfl, k2⟩
      have h := hr2 c q rfl
      unfold isW at h
      show (!decide (c ∈ tl ((" \"" : Str) ++ ("(),+" : Str)))) = false
      rw [wd_eq]
      exact h
  | cons c q =>
    subst hv2
    refine itT (decide_eq_true (by simp at hl2; omega)) ?_
    refine ⟨_, rfl, _, rfl, z, _, c, rfl, rfl, hs, step c _ rfl, _, _, rfl, rfl, by decide +kernel, c, _, rfl, rfl, _, rfl, ?_⟩
    refine itT ?_ ?_
    · have h := hv c (by rw [hv12]; simp)
      unfold isW at h
      show (!decide (c ∈ tl ((" \"" : Str) ++ ("(),+" : Str)))) = true
      rw [wd_eq]
      exact h
    · refine ⟨_, fun _ _ z => z, _, rfl, _, _, rfl, rfl, ?_⟩
      refine ⟨q.length, by simp, v1 ++ [c], q, by simp [hv12], rfl, ?_, rfl⟩
      show [some (V.str z), some (V.int (p.length : Nat)), some (V.int (((p.length + v1.length : Nat) : Int) + 1))] = _
      have e : (((p.length + v1.length : Nat) : Int) + 1) = ((p.length + (v1 ++ [c]).length : Nat) : Int) := by simp; omega
      rw [e]
end
end Ky

/-! The scanner: strings, lines. -/
namespace Ky
open PySem PySem.Spec PyProof.Rows L2 TL
theorem c34 : ("\"" : Str) = S [34] := ext_tl (by decide +kernel)
theorem c92 : ("\\" : Str) = S [92] := ext_tl (by decide +kernel)
theorem c32 : (" " : Str) = S [32] := ext_tl (by decide +kernel)
theorem c110 : ("n" : Str) = S [110] := ext_tl (by decide +kernel)
theorem c10 : ("\n" : Str) = S [10] := ext_tl (by decide +kernel)
theorem ch_is {c d : Nat} {x : Str} (hx : x = S [d]) (h : c = d) : decide (chV c = V.str x) = true := decide_eq_true (by rw [hx, h])
theorem ch_no {c d : Nat} {x : Str} (hx : x = S [d]) (h : c ≠ d) : decide (chV c = V.str x) = false := decide_eq_false fun e => h (by
  rw [hx] at e
  have := S_inj (V.str.inj e)
  injection this)
theorem nb {b : Bool} (h : b = true) : (!b) = false := by rw [h] <;> rfl
theorem nb' {b : Bool} (h : b = false) : (!b) = true := by rw [h] <;> rfl

/-- the tokens at these values -/
def TkAt (H : Hp) (v : V) (t : Tk) : Prop := ∃ p col, v = .ref p ∧ H p = some (.tup [.str t.k, .str t.z, .int col])
def Tks (H : Hp) (vs : List V) (ts : List Tk) : Prop := vs.length = ts.length ∧ ∀ (i : Nat) (t : Tk), ts[i]? = some t → ∃ v, vs[i]? = some v ∧ TkAt H v t
theorem TkAt.same {H H' : Hp} {v : V} {t : Tk} (h : TkAt H v t) (e : Same H H') : TkAt H' v t := by
  obtain ⟨p, col, h1, h2⟩ := h
  exact ⟨p, col, h1, e _ _ h2⟩
theorem Tks.same {H H' : Hp} {vs : List V} {ts : List Tk} (h : Tks H vs ts) (e : Same H H') : Tks H' vs ts := ⟨h.1, fun i t ht => by
  obtain ⟨v, h1, h2⟩ := h.2 i t ht
  exact ⟨v, h1, h2.same e⟩⟩
/-- only a list that holds no token changes -/
theorem TkAt.keep {H H' : Hp} {v : V} {t : Tk} (h : TkAt H v t) (e : ∀ p xs, H p = some (.tup xs) → H' p = some (.tup xs)) : TkAt H' v t := by
  obtain ⟨p, col, h1, h2⟩ := h
  exact ⟨p, col, h1, e _ _ h2⟩
theorem Tks.keep {H H' : Hp} {vs : List V} {ts : List Tk} (h : Tks H vs ts) (e : ∀ p xs, H p = some (.tup xs) → H' p = some (.tup xs)) : Tks H' vs ts := ⟨h.1, fun i t ht => by
  obtain ⟨v, h1, h2⟩ := h.2 i t ht
  exact ⟨v, h1, h2.keep e⟩⟩
theorem Tks.nil {H : Hp} : Tks H [] [] := ⟨rfl, fun i t ht => by simp at ht⟩
theorem Tks.snoc {H : Hp} {vs : List V} {ts : List Tk} {v : V} {t : Tk} (h : Tks H vs ts) (hv : TkAt H v t) : Tks H (vs ++ [v]) (ts ++ [t]) := by
  refine ⟨by rw [List.length_append, List.length_append, h.1] <;> rfl, fun i u hu => ?_⟩
  by_cases hi : i < ts.length
  · rw [List.getElem?_append_left hi] at hu
    obtain ⟨x, h1, h2⟩ := h.2 i u hu
    exact ⟨x, by rw [List.getElem?_append_left (by rw [h.1]; exact hi)]; exact h1, h2⟩
  · rw [List.getElem?_append_right (by omega)] at hu
    have e : i - ts.length = 0 := by
      cases q : i - ts.length with
      | zero => rfl
      | succ n => rw [q] at hu; simp at hu
    rw [e] at hu
    have e2 : t = u := by simpa using hu
    subst e2
    refine ⟨v, ?_, hv⟩
    rw [List.getElem?_append_right (by rw [h.1]; omega), h.1, e]
    rfl
/-- a list changes, the tuples stay -/
theorem tup_keep {H : Hp} {l : Addr} {xs ys : List V} (h : H l = some (.lst xs)) : ∀ p zs, H p = some (.tup zs) → upd H l (.lst ys) p = some (.tup zs) := fun p zs e => by
  rw [upd_ne (ne_of e h (by intro q; cases q))]
  exact e
section
variable {P : Program} {w : World} {K : PySem.W.Frag} {mg : Str → Option Value} {base : Heap} {φ : Str × Option Str → FuncData}
theorem esc_look (T : Tp w K mg φ) {c e : Nat} (h : Esc c e) : ∃ u, PySem.W.nsIn K (He.ga K "ESCAPES") (S [c]) = some (some u) ∧ RelV (chV e) u := by
  have m := T.more
  unfold ex at m
  obtain ⟨_, m⟩ := Bool.and_eq_true_iff.mp m
  obtain ⟨_, m⟩ := Bool.and_eq_true_iff.mp m
  obtain ⟨m, _⟩ := Bool.and_eq_true_iff.mp m
  cases h with
  | n =>
    have := He.valsB_ok m (q := ("n", .str "\n")) (by unfold escV; exact List.mem_cons_self)
    rw [← c110]
    unfold chV
    rw [← c10]
    exact this
  | q =>
    have := He.valsB_ok m (q := ("\"", .str "\"")) (by unfold escV; exact List.mem_cons_of_mem _ List.mem_cons_self)
    unfold chV
    rw [← c34]
    exact this
  | b =>
    have := He.valsB_ok m (q := ("\\", .str "\\")) (by unfold escV; exact List.mem_cons_of_mem _ (List.mem_cons_of_mem _ List.mem_cons_self))
    unfold chV
    rw [← c92]
    exact this

theorem kdE (T : Tp w K mg φ) : ∃ es n, KDict K w (He.ga K "ESCAPES") es n := T.tab 0 _ rfl
theorem kdA (T : Tp w K mg φ) : ∃ es n, KDict K w (He.ga K "ARGUMENTS") es n := T.tab 1 _ rfl
theorem sum_ch : ∀ l : List Nat, ((l.map fun c => S [c]).map (·.length)).sum = l.length
  | [] => rfl
  | c :: r => by
    rw [List.map_cons, List.map_cons, List.sum_cons, sum_ch r, List.length_cons, len_S]
    simp
    omega
/-! ### a string -/
def spScs : Sp := fun vs H Q _ => ∃ (a b : V) (z : Str) (p s t r : List Nat), vs = [a, b, .str z, .int (p.length : Nat)] ∧ tl z = p ++ 34 :: (s ++ 34 :: r) ∧ z.length ≤ 1000 ∧ SLx s t ∧
  ∀ H' q, Same H H' → H q = none → H' q = some (.tup [.str (S t), .int (p.length + s.length + 2 : Nat)]) → Q (.ref q) H'
theorem slx_len {s t : List Nat} (h : SLx s t) : t.length ≤ s.length := by
  induction h with
  | nil => exact Nat.le_refl _
  | chr _ _ _ ih => simp; exact ih
  | esc _ _ ih => simp; omega
theorem ok_scan_string (T : Tp w K mg φ) : FnOk P w K mg base CX0 1 (He.ga K "scan_string") (φ ("scan_string", none)) P_scan_string spScs := by
  refine okF T.F_scan_string sc_scan_string (fun vs H Q E h => ?_) (fun cdv A outer s H vs Q E hr h => ?_)
  · obtain ⟨a, b, z, p, s, t, r, rfl, _⟩ := h
    rfl
  obtain ⟨a, b, z, p, s, t, r, rfl, hz, hl, hst, k⟩ := h
  have nd := sc_scan_string.nd
  obtain ⟨es, n, D_ESCAPES⟩ := kdE T
  refine ⟨_, (pss_cons (ps_set (i := 4) nd rfl (Or.inl rfl) (pe_lst pa_nil))
    (pss_cons (ps_set (i := 5) nd rfl (Or.inl rfl) (pe_op op_add (pv 3) pe_int))
    (pss_cons (ps_while PassesOwn.never (pt_cmpR op_lt (pv 5) (pe_callB call_len_str (by rfl) T.z_len (by decide +kernel) (pa_cons (pv 2) pa_nil)) (nomark _)) 
      (pss_cons (ps_set (i := 6) nd rfl (Or.inl rfl) (pe_ix ix_str (pv 2) (pv 5) (fun _ _ => rfl)))
      (pss_cons (ps_if (pt_cmpR op_eq (pv 6) pe_str (nomark _)) 
        (pss_one (ps_ret (pe_tup (pa_cons (pe_join pe_str (pv 4)) (pa_cons (pe_op op_add (pv 5) pe_int) pa_nil))))) pss_nil)
      (pss_one (ps_if (pt_cmpR op_ne (pv 6) pe_str (nomark _)) 
        (pss_cons (ps_expr (pe_bm PySem.F.plainAttrs_list PySem.F.slot_list_append PySem.F.type_list_append mt_append (pv 4) (pa_cons (pv 6) pa_nil)))
        (pss_one (ps_aug (i := 5) nd rfl (Or.inl rfl) pe_int ip_add))) 
        (pss_one (ps_if (pt_cmpR op_eq (pe_op op_add (pv 5) pe_int) (pe_callB call_len_str (by rfl) T.z_len (by decide +kernel) (pa_cons (pv 2) pa_nil)) (nomark _)) 
          (pss_one ps_break) 
          (pss_one (ps_if (pt_cmpR (op_in_kd D_ESCAPES) (pe_ix ix_str (pv 2) (pe_op op_add (pv 5) pe_int) (fun _ _ => rfl)) (pe_gref T.g_ESCAPES) (by rfl)) 
            (pss_cons (ps_expr (pe_bm PySem.F.plainAttrs_list PySem.F.slot_list_append PySem.F.type_list_append mt_append (pv 4) (pa_cons (pe_ix ix_kdict (pe_gref T.g_ESCAPES) (pe_ix ix_str (pv 2) (pe_op op_add (pv 5) pe_int) (fun _ _ => rfl)) (fun _ _ => rfl)) pa_nil)))
            (pss_one (ps_aug (i := 5) nd rfl (Or.inl rfl) pe_int ip_add))) 
            (pss_one ps_never))))))))))
    (pss_one ps_never)))), ?_⟩
  have hs : z.length ≤ sizeLine := sz (by omega)
  have hlen : z.length = p.length + s.length + r.length + 2 := by rw [len_tl, hz]; simp; omega
  refine ⟨Nat.zero_le _, fun l hl0 => ?_⟩
  refine ⟨_, rfl, _, _, rfl, rfl, ?_⟩
  refine ⟨fun m σ H' => ∃ s1 t1 s2 t2 v, s = s1 ++ s2 ∧ t = t1 ++ t2 ∧ SLx s2 t2 ∧ m = s2.length ∧ t1.length ≤ s1.length ∧
    σ = [some a, some b, some (.str z), some (.int (p.length : Nat)), some (.ref l), some (.int ((p.length + 1 + s1.length : Nat) : Int)), v] ∧ Same H H' ∧ H' l = some (.lst (t1.map chV)),
    ⟨_, [], [], s, t, none, rfl, rfl, hst, rfl, Nat.le_refl _, rfl, same_new hl0 _, upd_same⟩, ?_⟩
  rintro m σ H' ⟨s1, t1, s2, t2, v, rfl, rfl, hs2, rfl, hts, rfl, sm, hl1⟩
  have hle : (s1 ++ s2).length = s1.length + s2.length := List.length_append
  have htl : (t1 ++ t2).length ≤ (s1 ++ s2).length := slx_len hst
  have stp : ∀ (c : Nat) (q : List Nat), s2 ++ 34 :: r = c :: q → atI z.cps.toList ((p.length + 1 + s1.length : Nat) : Int) = some c := fun c q e => by
    have e2 : tl z = (p ++ 34 :: s1) ++ c :: q := by rw [hz, ← e]; simp
    have := at_cons e2
    rw [List.length_append, List.length_cons] at this
    have e3 : p.length + (s1.length + 1) = p.length + 1 + s1.length := by omega
    rwa [e3] at this
  refine ⟨_, rfl, _, rfl, z, rfl, hs, _, _, rfl, rfl, _, rfl, itT (decide_eq_true (by omega)) ?_⟩
  refine ⟨_, fun _ _ z => z, ?_⟩
  cases hs2 with
  | nil =>
    refine ⟨_, rfl, _, rfl, z, _, 34, rfl, rfl, hs, stp 34 r rfl, ?_⟩
    refine ⟨_, rfl, rfl, _, rfl, itT (ch_is c34 rfl) ?_⟩
    refine ⟨⟨_, rfl⟩, _, rfl, _, l, t1.map (fun c => S [c]), rfl, rfl, .inl (SqL.of ?_), ?_, ?_⟩
    · rw [hl1, List.map_map]
      rfl
    · have e := sum_ch t1
      have e0 : ("" : Str).length = 0 := by decide +kernel
      rw [e, e0]
      simp at htl hlen
      omega
    · refine ⟨_, rfl, _, _, rfl, rfl, by show 2 ≤ sizeLine; decide, fun q hq => ?_⟩
      rw [join_chars]
      refine k _ q (sm.trans (same_new hq _)) (sm.free hq) ?_
      rw [upd_same]
      have e : ((p.length + 1 + s1.length : Nat) : Int) + 1 = ((p.length + (s1 ++ []).length + 2 : Nat) : Int) := by simp; omega
      rw [← e, List.append_nil]
  | @chr c s3 t3 h34 h92 hs3 =>
    refine ⟨_, rfl, _, rfl, z, _, c, rfl, rfl, hs, stp c _ rfl, ?_⟩
    refine ⟨_, rfl, rfl, _, rfl, itF (ch_no c34 h34) ?_⟩
    refine ⟨_, rfl, rfl, _, rfl, itT (nb' (ch_no c92 h92)) ?_⟩
    refine ⟨_, rfl, .inl ⟨rfl, _, SqL.of hl1⟩, _, rfl, l, _, _, rfl, rfl, hl1, by rw [List.length_map]; exact szl (by simp at htl hlen; omega), ?_⟩
    refine ⟨_, rfl, _, _, rfl, rfl, ?_⟩
    refine ⟨s3.length, by simp, s1 ++ [c], t1 ++ [c], s3, t3, some (chV c), by simp, by simp, hs3, rfl, by simp; exact hts, ?_, Same.mut sm hl0, ?_⟩
    · have e : ((p.length + 1 + s1.length : Nat) : Int) + 1 = ((p.length + 1 + (s1 ++ [c]).length : Nat) : Int) := by simp; omega
      rw [← e]
      rfl
    · rw [upd_same, List.map_append]
      rfl
  | @esc c e s3 t3 hce hs3 =>
    refine ⟨_, rfl, _, rfl, z, _, 92, rfl, rfl, hs, stp 92 _ rfl, ?_⟩
    refine ⟨_, rfl, rfl, _, rfl, itF (ch_no c34 (by decide)) ?_⟩
    refine ⟨_, rfl, rfl, _, rfl, itF (nb (ch_is c92 rfl)) ?_⟩
    refine ⟨_, rfl, _, _, rfl, rfl, _, rfl, z, rfl, hs, rfl, _, rfl, itF (decide_eq_false fun q => ?_) ?_⟩
    · have := V.int.inj q
      simp at hlen
      omega
    obtain ⟨u, hu, ru⟩ := esc_look T hce
    have hat : atI z.cps.toList (((p.length + 1 + s1.length : Nat) : Int) + 1) = some c := by
      have e2 : tl z = (p ++ 34 :: (s1 ++ [92])) ++ c :: (s3 ++ 34 :: r) := by rw [hz]; simp
      have := at_cons e2
      have e3 : (((p ++ 34 :: (s1 ++ [92])).length : Nat) : Int) = ((p.length + 1 + s1.length : Nat) : Int) + 1 := by simp; omega
      rwa [e3] at this
    refine ⟨_, rfl, _, rfl, _, _, rfl, rfl, z, _, c, rfl, rfl, hs, hat, _, _, rfl, rfl, hu, _, rfl, itT rfl ?_⟩
    refine ⟨_, rfl, .inl ⟨rfl, _, SqL.of hl1⟩, _, rfl, _, rfl, _, _, rfl, rfl, z, _, c, rfl, rfl, hs, hat, _, _, _, rfl, rfl, ⟨_, _, u, D_ESCAPES.at_, D_ESCAPES.lit, hu, ru⟩, l, _, _, rfl, rfl, hl1, by rw [List.length_map]; exact szl (by simp at htl hlen; omega), ?_⟩
    refine ⟨_, rfl, _, _, rfl, rfl, ?_⟩
    refine ⟨s3.length, by simp; omega, s1 ++ [92, c], t1 ++ [e], s3, t3, some (chV 92), by simp, by simp, hs3, rfl, by simp; omega, ?_, Same.mut sm hl0, ?_⟩
    · have e : ((p.length + 1 + s1.length : Nat) : Int) + 2 = ((p.length + 1 + (s1 ++ [92, c]).length : Nat) : Int) := by simp; omega
      rw [← e]
      rfl
    · rw [upd_same, List.map_append]
      rfl
end
end Ky

/-! The scanner: a line, the tokens' readers. -/
namespace Ky
open PySem PySem.Spec PyProof.Rows L2 TL
theorem sg_eq : tl ("(),+" : Str) = sgn := by decide +kernel
theorem isW_no {c : Nat} (h : isW c = true) : c ≠ 32 ∧ c ≠ 34 ∧ c ∉ sgn := by
  unfold isW at h
  have h1 := of_decide_eq_false (by simpa using h : decide (c ∈ ([32, 34, 40, 41, 44, 43] : List Nat)) = false)
  refine ⟨fun e => h1 (by rw [e]; decide), fun e => h1 (by rw [e]; decide), fun e => h1 ?_⟩
  unfold sgn at e
  simp at e ⊢
  omega
theorem tk_push {H H' : Hp} {l p : Addr} {vs : List V} {ts : List Tk} {t : Tk} {col : Int} (sm : Same H H') (hl0 : H l = none) (hl : H' l = some (.lst vs)) (hp : H' p = none) (h : Tks H' vs ts) :
    Same H (upd (upd H' p (.tup [.str t.k, .str t.z, .int col])) l (.lst (vs ++ [.ref p]))) ∧ Tks (upd (upd H' p (.tup [.str t.k, .str t.z, .int col])) l (.lst (vs ++ [.ref p]))) (vs ++ [.ref p]) (ts ++ [t]) := by
  have nlp : l ≠ p := ne_of_none hl hp
  refine ⟨Same.mut (sm.trans (same_new hp _)) hl0, ?_⟩
  have h1 : Tks (upd H' p (.tup [.str t.k, .str t.z, .int col])) (vs ++ [.ref p]) (ts ++ [t]) := (h.same (same_new hp _)).snoc ⟨p, col, rfl, upd_same⟩
  exact h1.keep (tup_keep (by rw [upd_ne nlp]; exact hl))
section
variable {P : Program} {w : World} {K : PySem.W.Frag} {mg : Str → Option Value} {base : Heap} {φ : Str × Option Str → FuncData}
def spScan : Sp := fun vs H Q _ => ∃ (a b : V) (z : Str) (ts : List Tk), vs = [a, b, .str z] ∧ LL (tl z) ts ∧ z.length ≤ 1000 ∧
  ∀ l vs H', H l = none → Same H H' → H' l = some (.lst vs) → Tks H' vs ts → Q (.ref l) H'
theorem ok_scan_line (T : Tp w K mg φ) : FnOk P w K mg base CX0 2 (He.ga K "scan_line") (φ ("scan_line", none)) P_scan_line spScan := by
  have G_is_skipped := ok_is_skipped (P := P) (base := base) T
  have G_scan_string := ok_scan_string (P := P) (base := base) T
  have G_word_end := ok_word_end (P := P) (base := base) T
  refine okF T.F_scan_line sc_scan_line (fun vs H Q E h => ?_) (fun cdv A outer s H vs Q E hr h => ?_)
  · obtain ⟨a, b, z, ts, rfl, _⟩ := h
    rfl
  obtain ⟨a, b, z, ts, rfl, hll, hz, k⟩ := h
  have nd := sc_scan_line.nd
  refine ⟨_, (pss_cons (ps_set (i := 3) nd rfl (Or.inl rfl) (pe_lst pa_nil))
    (pss_cons (ps_set (i := 4) nd rfl (Or.inl rfl) pe_int)
    (pss_cons (ps_if (pt_val (pe_call G_is_skipped (hr.mono (by omega)) rfl T.g_is_skipped T.k_is_skipped T.b_is_skipped .nil pass0 (pa_cons (pv 2) pa_nil))) 
      (pss_one (ps_ret (pv 3))) pss_nil)
    (pss_cons (ps_while PassesOwn.never (pt_cmpR op_lt (pv 4) (pe_callB call_len_str (by rfl) T.z_len (by decide +kernel) (pa_cons (pv 2) pa_nil)) (nomark _)) 
      (pss_cons (ps_set (i := 5) nd rfl (Or.inl rfl) (pe_ix ix_str (pv 2) (pv 4) (fun _ _ => rfl)))
      (pss_one (ps_if (pt_cmpR op_eq (pv 5) pe_str (nomark _)) 
        (pss_one (ps_aug (i := 4) nd rfl (Or.inl rfl) pe_int ip_add)) 
        (pss_one (ps_if (pt_cmpR op_in_sign (pv 5) (pe_gstr T.s_SIGNS) (by rfl)) 
          (pss_cons (ps_expr (pe_bm PySem.F.plainAttrs_list PySem.F.slot_list_append PySem.F.type_list_append mt_append (pv 3) (pa_cons (pe_tup (pa_cons pe_str (pa_cons (pv 5) (pa_cons (pe_op op_add (pv 4) pe_int) pa_nil)))) pa_nil)))
          (pss_one (ps_aug (i := 4) nd rfl (Or.inl rfl) pe_int ip_add))) 
          (pss_one (ps_if (pt_cmpR op_eq (pv 5) pe_str (nomark _)) 
            (pss_cons (ps_asg (pe_call G_scan_string (hr.mono (by omega)) rfl T.g_scan_string T.k_scan_string T.b_scan_string .nil pass0 (pa_cons (pv 0) (pa_cons (pv 1) (pa_cons (pv 2) (pa_cons (pv 4) pa_nil))))) (pg_tup rfl (pgs_cons (pg_name (i := 6) nd rfl (Or.inl rfl)) (pgs_cons (pg_name (i := 7) nd rfl (Or.inl rfl)) pgs_nil))))
            (pss_cons (ps_expr (pe_bm PySem.F.plainAttrs_list PySem.F.slot_list_append PySem.F.type_list_append mt_append (pv 3) (pa_cons (pe_tup (pa_cons pe_str (pa_cons (pv 6) (pa_cons (pe_op op_add (pv 4) pe_int) pa_nil)))) pa_nil)))
            (pss_one (ps_set (i := 4) nd rfl (Or.inl rfl) (pv 7))))) 
            (pss_cons (ps_set (i := 7) nd rfl (Or.inl rfl) (pe_call G_word_end (hr.mono (by omega)) rfl T.g_word_end T.k_word_end T.b_word_end .nil pass0 (pa_cons (pv 2) (pa_cons (pv 4) pa_nil))))
            (pss_cons (ps_expr (pe_bm PySem.F.plainAttrs_list PySem.F.slot_list_append PySem.F.type_list_append mt_append (pv 3) (pa_cons (pe_tup (pa_cons pe_str (pa_cons (pe_slice sl_str (pv 2) (po_some (pv 4)) (po_some (pv 7))) (pa_cons (pe_op op_add (pv 4) pe_int) pa_nil)))) pa_nil)))
            (pss_one (ps_set (i := 4) nd rfl (Or.inl rfl) (pv 7)))))))))))))
    (pss_one (ps_ret (pv 3))))))), ?_⟩
  have hs : z.length ≤ sizeLine := sz (by omega)
  refine ⟨Nat.zero_le _, fun l hl0 => ?_⟩
  refine ⟨_, rfl, z, rfl, hz, _, rfl, ?_⟩
  rcases hll with ⟨hk, rfl⟩ | ⟨hk, hlx⟩
  · exact itT hk ⟨_, rfl, k l [] _ hl0 (same_new hl0 _) upd_same .nil⟩
  refine itF hk ?_
  refine ⟨fun m σ H' => ∃ p r ts1 ts2 vs x5 x6 x7, tl z = p ++ r ∧ Lx r ts2 ∧ ts = ts1 ++ ts2 ∧ m = r.length ∧
    σ = [some a, some b, some (.str z), some (.ref l), some (.int (p.length : Nat)), x5, x6, x7] ∧ Same H H' ∧ H' l = some (.lst vs) ∧ Tks H' vs ts1 ∧ vs.length ≤ p.length,
    ⟨_, [], tl z, [], ts, [], none, none, none, rfl, hlx, rfl, rfl, rfl, same_new hl0 _, upd_same, .nil, Nat.le_refl _⟩, ?_⟩
  rintro m σ H' ⟨p, r, ts1, ts2, vs, x5, x6, x7, hpr, hr2, rfl, rfl, rfl, sm, hl, ht, hvl⟩
  have hlen : z.length = p.length + r.length := by rw [len_tl, hpr, List.length_append]
  have stp : ∀ (c : Nat) (q : List Nat), r = c :: q → atI z.cps.toList ((p.length : Nat) : Int) = some c := fun c q e => by
    rw [e] at hpr
    exact at_cons hpr
  refine ⟨_, rfl, _, rfl, z, rfl, hs, _, _, rfl, rfl, _, rfl, ?_⟩
  have hvs : vs.length < sizeLine := szl (by omega)
  cases hr2 with
  | nil =>
    refine itF (decide_eq_false (by simp at hlen; omega)) ⟨_, rfl, ?_⟩
    rw [List.append_nil] at k
    exact k l vs H' hl0 sm hl ht
  | @sp r ts2 hr3 =>
    refine itT (decide_eq_true (by simp at hlen; omega)) ⟨_, fun _ _ z => z, ?_⟩
    refine ⟨_, rfl, _, rfl, z, _, 32, rfl, rfl, hs, stp 32 r rfl, ?_⟩
    refine ⟨_, rfl, rfl, _, rfl, itT (ch_is c32 rfl) ?_⟩
    refine ⟨_, rfl, _, _, rfl, rfl, ?_⟩
    refine ⟨r.length, by simp, p ++ [32], r, ts1, ts2, vs, some (chV 32), x6, x7, by simp [hpr], hr3, rfl, rfl, ?_, sm, hl, ht, by simp; omega⟩
    have e : ((p.length : Nat) : Int) + 1 = ((p ++ [32]).length : Nat) := by simp
    rw [← e]
    rfl
  | @sg c r ts2 hc hr3 =>
    have hc32 : c ≠ 32 := fun e => by rw [e] at hc; exact absurd hc (by decide)
    refine itT (decide_eq_true (by simp at hlen; omega)) ⟨_, fun _ _ z => z, ?_⟩
    refine ⟨_, rfl, _, rfl, z, _, c, rfl, rfl, hs, stp c r rfl, ?_⟩
    refine ⟨_, rfl, rfl, _, rfl, itF (ch_no c32 hc32) ?_⟩
    refine ⟨_, rfl, c, _, rfl, rfl, _, rfl, itT ?_ ?_⟩
    · show decide (c ∈ tl ("(),+" : Str)) = true
      rw [sg_eq]
      exact decide_eq_true hc
    refine ⟨_, rfl, .inl ⟨rfl, _, SqL.of hl⟩, _, rfl, _, rfl, _, _, rfl, rfl, by show 3 ≤ sizeLine; decide, fun q hq => ?_⟩
    obtain ⟨s2, t2⟩ := tk_push (t := tG c) (col := (p.length : Nat) + 1) sm hl0 hl hq ht
    refine ⟨l, _, _, rfl, rfl, by rw [upd_ne (ne_of_none hl hq)]; exact hl, hvs, ?_⟩
    refine ⟨_, rfl, _, _, rfl, rfl, ?_⟩
    refine ⟨r.length, by simp, p ++ [c], r, ts1 ++ [tG c], ts2, _, some (chV c), x6, x7, by simp [hpr], hr3, by simp, rfl, ?_, s2, upd_same, t2, by simp; omega⟩
    have e : ((p.length : Nat) : Int) + 1 = ((p ++ [c]).length : Nat) := by simp
    rw [← e]
    rfl
  | @str s1 t1 r ts2 hst hr3 =>
    refine itT (decide_eq_true (by simp at hlen; omega)) ⟨_, fun _ _ z => z, ?_⟩
    refine ⟨_, rfl, _, rfl, z, _, 34, rfl, rfl, hs, stp 34 _ rfl, ?_⟩
    refine ⟨_, rfl, rfl, _, rfl, itF (ch_no c32 (by decide)) ?_⟩
    refine ⟨_, rfl, 34, _, rfl, rfl, _, rfl, itF (by decide +kernel) ?_⟩
    refine ⟨_, rfl, rfl, _, rfl, itT (ch_is c34 rfl) ?_⟩
    refine ⟨_, rfl, _, rfl, _, rfl, _, rfl, a, b, z, p, s1, t1, r, rfl, hpr, hz, hst, fun H2 q sm2 hq hq2 => ?_⟩
    refine ⟨q, _, rfl, .inl (.inl hq2), rfl, _, _, rfl, _, _, rfl, rfl, ?_⟩
    have hl2 : H2 l = some (.lst vs) := sm2 _ _ hl
    refine ⟨_, rfl, .inl ⟨rfl, _, SqL.of hl2⟩, _, rfl, _, rfl, _, _, rfl, rfl, by show 3 ≤ sizeLine; decide, fun q2 hq3 => ?_⟩
    obtain ⟨s2, t2⟩ := tk_push (t := tQ t1) (col := (p.length : Nat) + 1) (sm.trans sm2) hl0 hl2 hq3 (ht.same sm2)
    refine ⟨l, _, _, rfl, rfl, by rw [upd_ne (ne_of_none hl2 hq3)]; exact hl2, hvs, ?_⟩
    refine ⟨_, rfl, ?_⟩
    refine ⟨r.length, by simp; omega, p ++ (34 :: (s1 ++ [34])), r, ts1 ++ [tQ t1], ts2, _, some (chV 34), some (.str (S t1)), some (.int ((p.length + s1.length + 2 : Nat) : Int)), by simp [hpr], hr3, by simp, rfl, ?_, s2, upd_same, t2, by simp; omega⟩
    have e : ((p ++ (34 :: (s1 ++ [34]))).length : Nat) = p.length + s1.length + 2 := by simp; omega
    rw [e]
    rfl
  | @word v r ts2 hv0 hv hstop hr3 =>
    obtain ⟨c, v', rfl⟩ : ∃ c v', v = c :: v' := by
      cases v with
      | nil => exact absurd rfl hv0
      | cons c v' => exact ⟨c, v', rfl⟩
    obtain ⟨n32, n34, nsg⟩ := isW_no (hv c List.mem_cons_self)
    refine itT (decide_eq_true (by simp at hlen; omega)) ⟨_, fun _ _ z => z, ?_⟩
    refine ⟨_, rfl, _, rfl, z, _, c, rfl, rfl, hs, stp c _ rfl, ?_⟩
    refine ⟨_, rfl, rfl, _, rfl, itF (ch_no c32 n32) ?_⟩
    refine ⟨_, rfl, c, _, rfl, rfl, _, rfl, itF ?_ ?_⟩
    · show decide (c ∈ tl ("(),+" : Str)) = false
      rw [sg_eq]
      exact decide_eq_false nsg
    refine ⟨_, rfl, rfl, _, rfl, itF (ch_no c34 n34) ?_⟩
    refine ⟨_, rfl, _, rfl, z, p, c :: v', r, rfl, hpr, hz, hv, hstop, ?_⟩
    refine ⟨_, rfl, .inl ⟨rfl, _, SqL.of hl⟩, _, rfl, _, rfl, _, rfl, _, rfl, _, rfl, z, rfl, hs, _, rfl, _, _, rfl, rfl, by show 3 ≤ sizeLine; decide, fun q hq => ?_⟩
    have ec : cutS z (some ((p.length : Nat) : Int)) (some ((p.length + (c :: v').length : Nat) : Int)) = S (c :: v') := by
      rw [cutS_nat z (by omega) (by rw [hlen]; simp), hpr]
      congr 1
      rw [List.drop_left, show p.length + (c :: v').length - p.length = (c :: v').length by omega, List.take_left]
    obtain ⟨s2, t2⟩ := tk_push (t := tW (S (c :: v'))) (col := (p.length : Nat) + 1) sm hl0 hl hq ht
    rw [ec]
    refine ⟨l, _, _, rfl, rfl, by rw [upd_ne (ne_of_none hl hq)]; exact hl, hvs, ?_⟩
    refine ⟨_, rfl, ?_⟩
    refine ⟨r.length, by simp; omega, p ++ (c :: v'), r, ts1 ++ [tW (S (c :: v'))], ts2, _, some (chV c), x6, some (.int ((p.length + (c :: v').length : Nat) : Int)), by simp [hpr], hr3, by simp, rfl, ?_, s2, upd_same, t2, by simp; omega⟩
    rw [List.length_append]
    rfl
end
end Ky

/-! A line's object and its methods. -/
namespace Ky
open PySem PySem.Spec PyProof.Rows L2 TL
/-! ### o.m(e, k = v) -/
def tMethN (C : Addr) (m : Str) (n j : Nat) (sp : Sp) (gV : List V → List V → List V) (E : XK) (ta : TE) (t tk : TA) : TE := fun σ H Q => ta σ H fun x H1 => ∃ a dx fs, x = .ref a ∧ H1 a = some (.ins C dx fs) ∧ fs.lookup m = none ∧
  t σ H1 fun vs H2 => tk σ H2 fun zs H3 => vs.length = n ∧ zs.length = j ∧ sp (gV (x :: vs) zs) H3 Q E
section
variable {X : Cx} {CX : CXT} {k n : Nat} {f C : Addr} {fd : FuncData} {ps ks : List Str} {sp : Sp} {E : XK} {m : Str} {p pos apos : Pos} {e o : Expr} {es : List Expr} {kws : List Keyword} {ta : TE} {t tk : TA} {g : List Value → List Value → List Value} {gV : List V → List V → List V}
theorem pe_methN {pl : Sem Bool} (he : PE X o ta) (c : Cls X.K C) (hm : Meth X.K C m f) (F : FnOk X.prog X.w X.K X.mg X.base CX k f fd ps sp) (hr : Room k X.A) (hb : KBn X.K fd ps (n + 1) ks g gV) (hx : Passes CX X E)
    (ha : PA X (e :: es) t) (hkw : PK X kws tk) (hall : (backToKw pos (keywordEach kws X.env)).all (·.1.isSome) = true := by rfl) (hks : (backToKw pos (keywordEach kws X.env)).filterMap (·.1) = ks := by rfl)
    (hst : starEach (e :: es) X.env = (false, eval e X.env) :: starEach es X.env := by rfl)
    (hpl : ((backTo pos (starEach (e :: es) X.env)).any (·.1) || (backToKw pos (keywordEach kws X.env)).any (·.1.isNone)) = false := by rfl)
    (ht : eval (.Call (.Attribute o m apos) (e :: es) kws pos) X.env = (do
      let ov ← eval o X.env
      standAt apos.atName
      let (f, first) ← holding [ov] (getMethod ov m pl)
      callWith pos f first (backTo pos (starEach (e :: es) X.env)) (backToKw pos (keywordEach kws X.env))) := by rfl) :
    PE X (.Call (.Attribute o m apos) (e :: es) kws pos) (tMethN C m n ks.length sp gV E ta t tk) := by
  refine ⟨fun pins s σ H Q I h => ?_⟩
  refine PySem.W.methodCall_KW (pl := pl) (thn (he.run pins s σ H _ I h) fun u s1 ⟨x, H1, I1, rx, a, dx, fs, ex, ea, l, q⟩ => ?_) ht
  subst ex
  obtain rfl : u = Value.ref a := rx
  refine getmeth_ok I1 ea c hm l ?_
  refine PySem.W.callWith_KW (first := [.ref a]) (h₀ := X.base) I.ok.mod.kin hm.kp hall (thn (ha.run pos pins s1 σ H1 _ I1 q) fun us s2 ⟨vs, H2, I2, r, q2⟩ => ?_) hpl hst
  refine thn (hkw.run pos pins s2 σ H2 _ I2 q2) fun ws s3 ⟨zs, H3, I3, rz, l1, l2, q3⟩ => ⟨I3.kIn, ?_⟩
  rw [hks]
  exact run_fnN (us := .ref a :: us) (vs := .ref a :: vs) F hr hb hx I3 (.cons rfl r) rz (by rw [List.length_cons, l1]) l2 q3
end
/-! ### the object -/
def lineF (a b : V) (l : Addr) (ec : Int) : List (Str × V) := [("path", a), ("number", b), ("tokens", .ref l), ("end_column", .int ec)]
/-- at p stands a line of these tokens -/
def LnAt (K : PySem.W.Frag) (H : Hp) (p : Addr) (ts : List Tk) : Prop := ∃ dx a b l ec vs, H p = some (.ins (He.ga K "Line") dx (lineF a b l ec)) ∧ H l = some (.lst vs) ∧ Tks H vs ts
theorem LnAt.same {K : PySem.W.Frag} {H H' : Hp} {p : Addr} {ts : List Tk} (h : LnAt K H p ts) (e : Same H H') : LnAt K H' p ts := by
  obtain ⟨dx, a, b, l, ec, vs, h1, h2, h3⟩ := h
  exact ⟨dx, a, b, l, ec, vs, e _ _ h1, e _ _ h2, h3.same e⟩
section
variable {P : Program} {w : World} {K : PySem.W.Frag} {mg : Str → Option Value} {base : Heap} {φ : Str × Option Str → FuncData}
def spLine (K : PySem.W.Frag) : Sp := fun vs H Q _ => ∃ (p dx : Addr) (a b : V) (z : Str) (ts : List Tk), vs = [.ref p, a, b, .str z] ∧ H p = some (.ins (He.ga K "Line") dx []) ∧ LL (tl z) ts ∧ z.length ≤ 1000 ∧
  ∀ H', LnAt K H' p ts → (∀ c o, H c = some o → c ≠ p → H' c = some o) → Q .non H'
theorem ok_Line___init__ (T : Tp w K mg φ) : FnOk P w K mg base CX0 3 (He.ma K (He.ga K "Line") "__init__") (φ ("Line", some "__init__")) P_Line___init__ (spLine K) := by
  have G_scan_line := ok_scan_line (P := P) (base := base) T
  refine okF T.F_Line___init__ sc_Line___init__ (fun vs H Q E h => ?_) (fun cdv A outer s H vs Q E hr h => ?_)
  · obtain ⟨p, dx, a, b, z, ts, rfl, _⟩ := h
    rfl
  obtain ⟨p, dx, a, b, z, ts, rfl, hp, hll, hz, k⟩ := h
  refine ⟨_, (pss_cons (ps_fld (pv 0) (pv 1) rfl)
    (pss_cons (ps_fld (pv 0) (pv 2) rfl)
    (pss_cons (ps_fld (pv 0) (pe_call G_scan_line (hr.mono (by omega)) rfl T.g_scan_line T.k_scan_line T.b_scan_line .nil pass0 (pa_cons (pv 1) (pa_cons (pv 2) (pa_cons (pv 3) pa_nil)))) rfl)
    (pss_one (ps_fld (pv 0) (pe_op op_add (pe_callB call_len_str (by rfl) T.z_len (by decide +kernel) (pa_cons (pe_bm PySem.F.plainAttrs_str PySem.F.slot_str_rstrip PySem.F.type_str_rstrip mt_rstripChars (pv 3) (pa_cons pe_str pa_nil)) pa_nil)) pe_int) rfl))))), ?_⟩
  refine ⟨_, rfl, _, rfl, p, _, dx, _, rfl, hp, T.c_Line, T.n_Line_path, by decide, ?_⟩
  refine ⟨_, rfl, _, rfl, p, _, dx, _, rfl, upd_same, T.c_Line, T.n_Line_number, by show 1 < 1000; decide, ?_⟩
  refine ⟨_, rfl, _, rfl, _, rfl, a, b, z, ts, rfl, hll, hz, fun l vs H1 hl0 sm hl ht => ?_⟩
  have hp1 : H1 p = some (.ins (He.ga K "Line") dx [("path", a), ("number", b)]) := sm _ _ upd_same
  have npl : p ≠ l := ne_of hp1 hl (by intro q; cases q)
  refine ⟨_, rfl, p, _, dx, _, rfl, hp1, T.c_Line, T.n_Line_tokens, by show 2 < 1000; decide, ?_⟩
  refine ⟨_, rfl, rfl, _, _, rfl, rfl, sz (by omega), _, rfl, ?_, _, _, rfl, rfl, ?_⟩
  · have := len_rstripChars z " "
    exact sz (by omega)
  refine ⟨_, rfl, p, _, dx, _, rfl, upd_same, T.c_Line, T.n_Line_end_column, by show 3 < 1000; decide, ?_⟩
  refine k _ ⟨dx, a, b, l, _, vs, upd_same, ?_, ht.keep ?_⟩ ?_
  · rw [upd_ne npl.symm, upd_ne npl.symm]
    exact hl
  · intro c xs hc
    have : c ≠ p := ne_of hc hp1 (by intro q; cases q)
    rw [upd_ne this, upd_ne this]
    exact hc
  · intro c o hc hcp
    rw [upd_ne hcp, upd_ne hcp]
    exact sm _ _ (by rw [upd_ne hcp, upd_ne hcp]; exact hc)
def spNeed (K : PySem.W.Frag) : Sp := fun vs H Q _ => ∃ (p : Addr) (i : Nat) (ts : List Tk), vs = [.ref p, .int (i : Nat)] ∧ LnAt K H p ts ∧ i < ts.length ∧ Q .non H
theorem ok_Line_need (T : Tp w K mg φ) : FnOk P w K mg base CX0 1 (He.ma K (He.ga K "Line") "need") (φ ("Line", some "need")) P_Line_need (spNeed K) := by
  refine okF T.F_Line_need sc_Line_need (fun vs H Q E h => ?_) (fun cdv A outer s H vs Q E hr h => ?_)
  · obtain ⟨p, i, ts, rfl, _⟩ := h
    rfl
  obtain ⟨p, i, ts, rfl, ⟨dx, a, b, l, ec, vs, h1, h2, h3⟩, hi, k⟩ := h
  refine ⟨_, (pss_one (ps_if (pt_cmpR op_ge (pv 1) (pe_callB call_len_seq (by rfl) T.z_len (by decide +kernel) (pa_cons (pe_fld (pv 0) rfl) pa_nil)) (nomark _)) 
      (pss_one ps_never) pss_nil)), ?_⟩
  refine ⟨_, rfl, _, rfl, p, _, dx, _, _, rfl, h1, T.c_Line, T.n_Line_tokens, rfl, l, _, rfl, .inl (SqL.of h2), _, _, rfl, rfl, _, rfl, itF (decide_eq_false ?_) k⟩
  have := h3.1
  omega
def spFinish (K : PySem.W.Frag) : Sp := fun vs H Q _ => ∃ (p : Addr) (i : Nat) (ts : List Tk), vs = [.ref p, .int (i : Nat)] ∧ LnAt K H p ts ∧ ts.length ≤ i ∧ Q .non H
theorem ok_Line_finish (T : Tp w K mg φ) : FnOk P w K mg base CX0 1 (He.ma K (He.ga K "Line") "finish") (φ ("Line", some "finish")) P_Line_finish (spFinish K) := by
  refine okF T.F_Line_finish sc_Line_finish (fun vs H Q E h => ?_) (fun cdv A outer s H vs Q E hr h => ?_)
  · obtain ⟨p, i, ts, rfl, _⟩ := h
    rfl
  obtain ⟨p, i, ts, rfl, ⟨dx, a, b, l, ec, vs, h1, h2, h3⟩, hi, k⟩ := h
  refine ⟨_, (pss_one (ps_if (pt_cmpR op_lt (pv 1) (pe_callB call_len_seq (by rfl) T.z_len (by decide +kernel) (pa_cons (pe_fld (pv 0) rfl) pa_nil)) (nomark _)) 
      (pss_one ps_never) pss_nil)), ?_⟩
  refine ⟨_, rfl, _, rfl, p, _, dx, _, _, rfl, h1, T.c_Line, T.n_Line_tokens, rfl, l, _, rfl, .inl (SqL.of h2), _, _, rfl, rfl, _, rfl, itF (decide_eq_false ?_) k⟩
  have := h3.1
  omega
def wd (t : Tk) : Str := if t.k = ("word" : Str) then t.z else ("" : Str)
def spWord (K : PySem.W.Frag) : Sp := fun vs H Q _ => ∃ (p : Addr) (i : Nat) (ts : List Tk) (t : Tk), vs = [.ref p, .int (i : Nat)] ∧ LnAt K H p ts ∧ ts[i]? = some t ∧ Q (.str (wd t)) H
theorem ok_Line_word (T : Tp w K mg φ) : FnOk P w K mg base CX0 1 (He.ma K (He.ga K "Line") "word") (φ ("Line", some "word")) P_Line_word (spWord K) := by
  refine okF T.F_Line_word sc_Line_word (fun vs H Q E h => ?_) (fun cdv A outer s H vs Q E hr h => ?_)
  · obtain ⟨p, i, ts, t, rfl, _⟩ := h
    rfl
  obtain ⟨p, i, ts, t, rfl, ⟨dx, a, b, l, ec, vs, h1, h2, h3⟩, hi, k⟩ := h
  refine ⟨_, (pss_cons (ps_if (pt_cmpR op_ne (pe_ix ix_tup (pe_ix ix_list (pe_fld (pv 0) rfl) (pv 1) (fun _ _ => rfl)) pe_int (fun _ _ => rfl)) pe_str (nomark _)) 
      (pss_one (ps_ret pe_str)) pss_nil)
    (pss_one (ps_ret (pe_ix ix_tup (pe_ix ix_list (pe_fld (pv 0) rfl) (pv 1) (fun _ _ => rfl)) pe_int (fun _ _ => rfl))))), ?_⟩
  obtain ⟨v, hv, q, col, rfl, hq⟩ := h3.2 i t hi
  refine ⟨_, rfl, p, _, dx, _, _, rfl, h1, T.c_Line, T.n_Line_tokens, rfl, _, rfl, l, _, _, _, rfl, rfl, SqL.of h2, atI_nat hv, q, _, _, _, rfl, rfl, .inl (.inl hq), rfl, rfl, _, rfl, ?_⟩
  unfold wd at k
  by_cases e : t.k = ("word" : Str)
  · rw [if_pos e] at k
    refine itF (by rw [e]; simp) ?_
    exact ⟨_, rfl, p, _, dx, _, _, rfl, h1, T.c_Line, T.n_Line_tokens, rfl, _, rfl, l, _, _, _, rfl, rfl, SqL.of h2, atI_nat hv, q, _, _, _, rfl, rfl, .inl (.inl hq), rfl, k⟩
  · rw [if_neg e] at k
    exact itT (by simp [e]) k
def spIdent (K : PySem.W.Frag) : Sp := fun vs H Q _ => ∃ (p : Addr) (i : Nat) (ts : List Tk) (x y : Str), vs = [.ref p, .int (i : Nat), .str y] ∧ LnAt K H p ts ∧ ts[i]? = some (tW x) ∧ idn (tl x) = true ∧ x ≠ y ∧ ∀ H', Same H H' → Q (.str x) H'
theorem wd_W (x : Str) : wd (tW x) = x := if_pos rfl
theorem lt_of_get {α : Type} {l : List α} {i : Nat} {x : α} (h : l[i]? = some x) : i < l.length := (List.getElem?_eq_some_iff.mp h).1
theorem ok_Line_identifier (T : Tp w K mg φ) : FnOk P w K mg base CX0 2 (He.ma K (He.ga K "Line") "identifier") (φ ("Line", some "identifier")) P_Line_identifier (spIdent K) := by
  have G_is_identifier := ok_is_identifier (P := P) (base := base) T
  have G_Line_need := ok_Line_need (P := P) (base := base) T
  have G_Line_word := ok_Line_word (P := P) (base := base) T
  refine okF T.F_Line_identifier sc_Line_identifier (fun vs H Q E h => ?_) (fun cdv A outer s H vs Q E hr h => ?_)
  · obtain ⟨p, i, ts, x, y, rfl, _⟩ := h
    rfl
  obtain ⟨p, i, ts, x, y, rfl, hL, hi, hx, hxy, k⟩ := h
  have nd := sc_Line_identifier.nd
  obtain ⟨dx, a, b, l, ec, vs, h1, _⟩ := id hL
  refine ⟨_, (pss_cons (ps_expr (pe_meth (pv 0) T.c_Line T.m_Line_need G_Line_need (hr.mono (by omega)) T.b_Line_need .nil pass0 (pa_cons (pv 1) pa_nil)))
    (pss_cons (ps_set (i := 3) nd rfl (Or.inl rfl) (pe_meth (pv 0) T.c_Line T.m_Line_word G_Line_word (hr.mono (by omega)) T.b_Line_word .nil pass0 (pa_cons (pv 1) pa_nil)))
    (pss_cons (ps_if (PW.pt (pw_or (pt_not (pt_val (pe_call G_is_identifier (hr.mono (by omega)) rfl T.g_is_identifier T.k_is_identifier T.b_is_identifier .nil pass0 (pa_cons (pv 3) pa_nil)))) (pw_or1 (pt_cmpR op_eq (pv 3) (pv 2) (nomark _))))) 
      (pss_one ps_never) pss_nil)
    (pss_one (ps_ret (pv 3)))))), ?_⟩
  refine ⟨_, rfl, p, dx, _, rfl, h1, rfl, _, rfl, p, i, ts, rfl, hL, lt_of_get hi, ?_⟩
  refine ⟨_, rfl, p, dx, _, rfl, h1, rfl, _, rfl, p, i, ts, _, rfl, hL, hi, ?_⟩
  rw [wd_W]
  refine ⟨_, rfl, x, rfl, hx, fun H' sm => ?_⟩
  refine ⟨_, rfl, itF rfl ?_⟩
  refine ⟨_, rfl, _, rfl, rfl, _, rfl, itF (decide_eq_false fun e => hxy (V.str.inj e)) ?_⟩
  exact ⟨_, rfl, k H' sm⟩
/-- its binding without the keyword -/
theorem b0_Line_identifier (T : Tp w K mg φ) : ∃ ds, Vals [.str ""] ds ∧ Binds K (φ ("Line", some "identifier")) P_Line_identifier ds :=
  T.F_Line_identifier.binds0 2 (by simp) rfl fun D doc pm an cdv ct us ks h1 h2 => match us, ks, h1, h2 with
    | [_, _], [_], _, _ => ⟨_, _, _, _, _, _, rfl, rfl, rfl⟩
theorem bk_Line_identifier (T : Tp w K mg φ) : ∃ mv : List Value, KBn K (φ ("Line", some "identifier")) P_Line_identifier 2 ["barred"] (fun us ws => us ++ ws) (fun vs zs => vs ++ zs) := by
  obtain ⟨mv, h⟩ := T.F_Line_identifier.kbinds0 (ps := P_Line_identifier) 2 ["barred"] [] (fun us _ ws => us ++ ws) (by simp) (by simp) (fun r _ z => r.append z) fun D doc pm an cdv ct us mv ws h1 h2 h3 => match us, mv, ws, h1, h2, h3 with
    | [_, _], [], [_], _, _, _ => rfl
  exact ⟨mv, h⟩
end
end Ky

/-! The data of expressions and their tokens. -/
namespace Ky
open PySem PySem.Spec PyProof.Rows L2 TL
mutual
theorem dp_same {K : PySem.W.Frag} {H H' : Hp} (e : Same H H') : ∀ (d : PyData) (v : V), Dp K H v d → Dp K H' v d
  | .none, _, h => by cases h; exact .non
  | .bool b, _, h => by cases h; exact .bl b
  | .int i, _, h => by cases h; exact .int i
  | .str x, _, h => by cases h; exact .str x
  | .list ds, _, h => by
    cases h with
    | lst hs ha => exact .lst (e.seq hs) (dpa_same e ds _ ha)
  | .tuple ds, _, h => by
    cases h with
    | tup hs ha => exact .tup (Same.sqt e hs) (dpa_same e ds _ ha)
  | .dict _, _, h => by cases h
theorem dpa_same {K : PySem.W.Frag} {H H' : Hp} (e : Same H H') : ∀ (ds : List PyData) (vs : List V), DpAll K H vs ds → DpAll K H' vs ds
  | [], _, h => by cases h; exact .nil
  | d :: ds, _, h => by
    cases h with
    | cons h1 h2 => exact .cons (dp_same e d _ h1) (dpa_same e ds _ h2)
end
/-- data of tuples alone: only tuples must stay -/
def tupd : PyData → Bool
  | .none | .bool _ | .int _ | .str _ => true
  | .list _ => false
  | .tuple ds => all ds
  | .dict _ => false
where all : List PyData → Bool
  | [] => true
  | d :: ds => tupd d && all ds
def TKeep (H H' : Hp) : Prop := ∀ p xs, H p = some (.tup xs) → H' p = some (.tup xs)
mutual
theorem dp_keep {K : PySem.W.Frag} {H H' : Hp} (e : TKeep H H') (e2 : ∀ p o u, H p = some (.frz o u) → H' p = some (.frz o u)) : ∀ (d : PyData) (v : V), tupd d = true → Dp K H v d → Dp K H' v d
  | .none, _, _, h => by cases h; exact .non
  | .bool b, _, _, h => by cases h; exact .bl b
  | .int i, _, _, h => by cases h; exact .int i
  | .str x, _, _, h => by cases h; exact .str x
  | .list ds, _, t, h => by cases t
  | .tuple ds, _, t, h => by
    cases h with
    | tup hs ha =>
      refine .tup ?_ (dpa_keep e e2 ds _ t ha)
      rcases hs with (h | ⟨o, h⟩) | h
      · exact .inl (.inl (e _ _ h))
      · exact .inl (.inr ⟨o, e2 _ _ _ h⟩)
      · exact .inr h
  | .dict _, _, _, h => by cases h
theorem dpa_keep {K : PySem.W.Frag} {H H' : Hp} (e : TKeep H H') (e2 : ∀ p o u, H p = some (.frz o u) → H' p = some (.frz o u)) : ∀ (ds : List PyData) (vs : List V), tupd.all ds = true → DpAll K H vs ds → DpAll K H' vs ds
  | [], _, _, h => by cases h; exact .nil
  | d :: ds, _, t, h => by
    cases h with
    | cons h1 h2 =>
      obtain ⟨t1, t2⟩ := Bool.and_eq_true_iff.mp (show (tupd d && tupd.all ds) = true from t)
      exact .cons (dp_keep e e2 d _ t1 h1) (dpa_keep e e2 ds _ t2 h2)
end
theorem dpa_len {K : PySem.W.Frag} {H : Hp} : ∀ (ds : List PyData) (vs : List V), DpAll K H vs ds → vs.length = ds.length
  | [], _, h => by cases h; rfl
  | d :: ds, _, h => by
    cases h with
    | cons h1 h2 => rw [List.length_cons, List.length_cons, dpa_len ds _ h2]
theorem dpa_snoc {K : PySem.W.Frag} {H : Hp} {v : V} {d : PyData} (hv : Dp K H v d) : ∀ (ds : List PyData) (vs : List V), DpAll K H vs ds → DpAll K H (vs ++ [v]) (ds ++ [d])
  | [], _, h => by cases h; exact .cons hv .nil
  | _ :: ds, _, h => by
    cases h with
    | cons h1 h2 => exact .cons h1 (dpa_snoc hv ds _ h2)
/-- a new tuple -/
theorem dp_tup {K : PySem.W.Frag} {H : Hp} {p : Addr} {vs : List V} {ds : List PyData} (h : H p = some (.tup vs)) (ha : DpAll K H vs ds) : Dp K H (.ref p) (.tuple ds) := .tup (.inl (.inl h)) ha

/-! ### what is written -/
abbrev dS (x : Str) : PyData := .str x
/-- how many arguments a function takes -/
def Ar (f : Str) (k : Nat) : Prop := (f, He.Dv.int (k : Int)) ∈ argV
def asc (l : List Nat) : Bool := l.all fun c => decide (c < 128)
/-- a text or a name; or what C says -/
def TmB (kn : List Str) (C : PyData → List Tk → Prop) (e : PyData) (ts : List Tk) : Prop :=
  (∃ l, asc l = true ∧ e = .tuple [dS "text", dS (S l)] ∧ ts = [tQ l]) ∨ (∃ x, x ∈ kn ∧ idn (tl x) = true ∧ e = .tuple [dS "name", dS x] ∧ ts = [tW x]) ∨ C e ts
/-- one or two terms -/
def ExOf (T : PyData → List Tk → Prop) (e : PyData) (ts : List Tk) : Prop :=
  T e ts ∨ ∃ a b ta tb, T a ta ∧ T b tb ∧ e = .tuple [dS "join", .tuple [a, b]] ∧ ts = ta ++ tG 43 :: tb
def ArgL (X : PyData → List Tk → Prop) : List PyData → List Tk → Prop
  | [], _ => False
  | [e], ts => X e ts
  | e :: f :: es, ts => ∃ a b, X e a ∧ ArgL X (f :: es) b ∧ ts = a ++ tG 44 :: b
def CallOf (X : PyData → List Tk → Prop) (e : PyData) (ts : List Tk) : Prop :=
  ∃ f es tss, Ar f es.length ∧ asc (tl f) = true ∧ ArgL X es tss ∧ e = .tuple [dS "call", dS f, .tuple es] ∧ ts = tW f :: tG 40 :: (tss ++ [tG 41])
mutual
def TmD : Nat → List Str → PyData → List Tk → Prop
  | 0, kn => TmB kn fun _ _ => False
  | n + 1, kn => TmB kn (CallOf (ExD n kn))
def ExD : Nat → List Str → PyData → List Tk → Prop
  | n, kn => ExOf (TmD n kn)
end
def CallD : Nat → List Str → PyData → List Tk → Prop
  | 0, _ => fun _ _ => False
  | n + 1, kn => CallOf (ExD n kn)
theorem tmD_eq (n : Nat) (kn : List Str) : TmD n kn = TmB kn (CallD n kn) := by
  cases n with
  | zero => rw [TmD]; rfl
  | succ n => rw [TmD]; rfl
theorem exD_eq (n : Nat) (kn : List Str) : ExD n kn = ExOf (TmD n kn) := by rw [ExD]
/-- a term begins with a word or a string -/
def Hd (ts : List Tk) : Prop := ∃ t r, ts = t :: r ∧ (t.k = ("word" : Str) ∨ t.k = ("string" : Str))
theorem tmD_hd {n : Nat} {kn : List Str} {e : PyData} {ts : List Tk} (h : TmD n kn e ts) : Hd ts := by
  rw [tmD_eq] at h
  rcases h with ⟨l, _, _, rfl⟩ | ⟨x, _, _, _, rfl⟩ | h
  · exact ⟨_, _, rfl, .inr rfl⟩
  · exact ⟨_, _, rfl, .inl rfl⟩
  · cases n with
    | zero => exact h.elim
    | succ n =>
      obtain ⟨f, es, tss, _, _, _, _, rfl⟩ := h
      exact ⟨_, _, rfl, .inl rfl⟩
theorem exD_hd {n : Nat} {kn : List Str} {e : PyData} {ts : List Tk} (h : ExD n kn e ts) : Hd ts := by
  rw [exD_eq] at h
  rcases h with h | ⟨a, b, ta, tb, h1, _, _, rfl⟩
  · exact tmD_hd h
  · obtain ⟨t, r, rfl, ht⟩ := tmD_hd h1
    exact ⟨t, _, rfl, ht⟩
theorem argL_hd {n : Nat} {kn : List Str} {es : List PyData} {ts : List Tk} (h : ArgL (ExD n kn) es ts) : Hd ts := by
  match es, h with
  | [e], h => exact exD_hd h
  | e :: f :: es, ⟨a, b, h1, _, h3⟩ =>
    obtain ⟨t, r, rfl, ht⟩ := exD_hd h1
    exact ⟨t, _, by rw [h3]; rfl, ht⟩
/-! ### heaps in which the tuples stand -/
def Nt : Option HO → Prop
  | some (.tup _) => False
  | some (.frz _ _) => False
  | _ => True
structure FK (H H' : Hp) : Prop where
  t : TKeep H H'
  f : ∀ p o u, H p = some (.frz o u) → H' p = some (.frz o u)
theorem FK.refl (H : Hp) : FK H H := ⟨fun _ _ h => h, fun _ _ _ h => h⟩
theorem FK.trans {H H1 H2 : Hp} (a : FK H H1) (b : FK H1 H2) : FK H H2 := ⟨fun p xs h => b.t p xs (a.t p xs h), fun p o u h => b.f p o u (a.f p o u h)⟩
theorem FK.same {H H' : Hp} (e : Same H H') : FK H H' := ⟨fun p xs h => e _ _ h, fun p o u h => e _ _ h⟩
theorem FK.upd {H : Hp} {l : Addr} (o : HO) (h : Nt (H l)) : FK H (upd H l o) := by
  refine ⟨fun p xs e => ?_, fun p q u e => ?_⟩
  · have : p ≠ l := fun z => by rw [← z, e] at h; exact h
    rw [upd_ne this]
    exact e
  · have : p ≠ l := fun z => by rw [← z, e] at h; exact h
    rw [upd_ne this]
    exact e
theorem FK.lst {H : Hp} {l : Addr} {xs : List V} (o : HO) (h : H l = some (.lst xs)) : FK H (L2.upd H l o) := FK.upd o (by rw [h]; trivial)
theorem FK.ins {H : Hp} {l C dx : Addr} {fs : List (Str × V)} (o : HO) (h : H l = some (.ins C dx fs)) : FK H (L2.upd H l o) := FK.upd o (by rw [h]; trivial)
theorem FK.dp {K : PySem.W.Frag} {H H' : Hp} {d : PyData} {v : V} (e : FK H H') (t : tupd d = true) (h : Dp K H v d) : Dp K H' v d := dp_keep e.t e.f d v t h
theorem FK.dpa {K : PySem.W.Frag} {H H' : Hp} {ds : List PyData} {vs : List V} (e : FK H H') (t : tupd.all ds = true) (h : DpAll K H vs ds) : DpAll K H' vs ds := dpa_keep e.t e.f ds vs t h
theorem FK.tks {H H' : Hp} {vs : List V} {ts : List Tk} (e : FK H H') (h : Tks H vs ts) : Tks H' vs ts := h.keep e.t
/-! ### the depth and the texts of the data -/
structure Gd (k : Nat) (d : PyData) : Prop where
  lay : d.canLay0 = true
  tup : tupd d = true
  dep : d.depth ≤ k
theorem strOk_asc {x : Str} (h : asc (tl x) = true) : PyData.strOk x = true := by
  unfold asc at h
  unfold PyData.strOk
  rw [Array.all_eq_true']
  intro c hc
  have := List.all_eq_true.mp h c (by simpa using hc)
  have := of_decide_eq_true this
  exact decide_eq_true (by omega)
theorem Gd.str {k : Nat} {x : Str} (h : asc (tl x) = true) : Gd k (.str x) := ⟨strOk_asc h, rfl, Nat.zero_le _⟩
theorem Gd.mono {j k : Nat} {d : PyData} (h : Gd j d) (l : j ≤ k) : Gd k d := ⟨h.lay, h.tup, Nat.le_trans h.dep l⟩
def GdA (k : Nat) (ds : List PyData) : Prop := ∀ d ∈ ds, Gd k d
theorem gda_lay {k : Nat} : ∀ {ds : List PyData}, GdA k ds → PyData.canLayAll0 ds = true ∧ tupd.all ds = true ∧ PyData.depthAll ds ≤ k
  | [], _ => ⟨rfl, rfl, Nat.zero_le _⟩
  | d :: ds, h => by
    obtain ⟨a, b, c⟩ := gda_lay (ds := ds) fun x hx => h x (List.mem_cons_of_mem _ hx)
    obtain ⟨a', b', c'⟩ := h d List.mem_cons_self
    exact ⟨Bool.and_eq_true_iff.mpr ⟨a', a⟩, Bool.and_eq_true_iff.mpr ⟨b', b⟩, Nat.max_le.mpr ⟨c', c⟩⟩
theorem Gd.tuple {k : Nat} {ds : List PyData} (h : GdA k ds) : Gd (k + 1) (.tuple ds) := by
  obtain ⟨a, b, c⟩ := gda_lay h
  exact ⟨a, b, Nat.succ_le_succ c⟩
theorem GdA.nil {k : Nat} : GdA k [] := fun _ h => nomatch h
theorem GdA.cons {k : Nat} {d : PyData} {ds : List PyData} (h : Gd k d) (hs : GdA k ds) : GdA k (d :: ds) := fun x hx => by
  rcases List.mem_cons.mp hx with e | hx
  · rw [e]; exact h
  · exact hs x hx
theorem asc_idn {l : List Nat} (h : idn l = true) : asc l = true := by
  unfold idn at h
  have h2 := (Bool.and_eq_true_iff.mp h).2
  unfold asc
  rw [List.all_eq_true] at h2 ⊢
  intro c hc
  have h3 := of_decide_eq_true (h2 c hc)
  have key : ∀ c ∈ idnL, c < 128 := by decide +kernel
  exact decide_eq_true (key c h3)
theorem argL_good {X : PyData → List Tk → Prop} {k : Nat} (hX : ∀ e ts, X e ts → Gd k e) : ∀ {es : List PyData} {ts : List Tk}, ArgL X es ts → GdA k es
  | [], _, h => h.elim
  | [e], ts, h => .cons (hX e ts h) .nil
  | e :: f :: es, ts, ⟨a, b, h1, h2, _⟩ => .cons (hX e a h1) (argL_good hX h2)
theorem tmD_good : ∀ {n : Nat} {kn : List Str} {e : PyData} {ts : List Tk}, TmD n kn e ts → Gd (4 * n + 1) e
  | n, kn, e, ts, h => by
    rw [tmD_eq] at h
    rcases h with ⟨l, ha, rfl, _⟩ | ⟨x, _, hx, rfl, _⟩ | h
    · exact .tuple (.cons (.str (by decide +kernel)) (.cons (.str ha) .nil))
    · exact .tuple (.cons (.str (by decide +kernel)) (.cons (.str (asc_idn hx)) .nil))
    · match n, h with
      | n + 1, h =>
        obtain ⟨f, es, tss, _, hf, h1, rfl, _⟩ := h
        have hs : GdA (4 * n + 3) es := argL_good (fun e ts h => by
          rw [exD_eq] at h
          rcases h with h | ⟨a, b, ta, tb, h1, h2, rfl, _⟩
          · exact (tmD_good h).mono (by omega)
          · exact .tuple (.cons (.str (by decide +kernel)) (.cons (.tuple (.cons (tmD_good h1) (.cons (tmD_good h2) .nil))) .nil))) h1
        exact .tuple (.cons (.str (by decide +kernel)) (.cons (.str hf) (.cons (.tuple hs) .nil)))
theorem exD_good {n : Nat} {kn : List Str} {e : PyData} {ts : List Tk} (h : ExD n kn e ts) : Gd (4 * n + 3) e := by
  rw [exD_eq] at h
  rcases h with h | ⟨a, b, ta, tb, h1, h2, rfl, _⟩
  · exact (tmD_good h).mono (by omega)
  · exact .tuple (.cons (.str (by decide +kernel)) (.cons (.tuple (.cons (tmD_good h1) (.cons (tmD_good h2) .nil))) .nil))
end Ky

/-! Expressions. -/
namespace Ky
open PySem PySem.Spec PyProof.Rows L2 TL
def isSgn (ts : List Tk) (i : Nat) (c : Nat) : Bool := match ts[i]? with
  | some t => decide (t.k = ("sign" : Str)) && decide (t.z = S [c])
  | none => false
theorem fnOk_never {P : Program} {w : World} {K : PySem.W.Frag} {mg : Str → Option Value} {base : Heap} {k : Nat} {f : Addr} {fd : FuncData} {ps : List Str} {sp : Sp} (no : ∀ vs H Q E, ¬ sp vs H Q E) : FnOk P w K mg base CX0 k f fd ps sp :=
  ⟨fun vs H Q E h => absurd h (no vs H Q E), fun A outer s H args us vs Q E _ _ _ _ h => absurd h (no vs H Q E)⟩
theorem inV_str (x : Str) (kn : List Str) : inV (.str x) (kn.map V.str) = decide (x ∈ kn) := by
  unfold inV
  rw [List.any_map]
  induction kn with
  | nil => rfl
  | cons y r ih =>
    rw [List.any_cons, ih]
    show ((y == x) || decide (x ∈ r)) = _
    by_cases h : y = x
    · simp [h]
    · have h2 : ¬ x = y := fun e => h e.symm
      simp [h, h2]
theorem flat_strs (kn : List Str) : (kn.map V.str).all flatV = true := by
  rw [List.all_map]
  exact List.all_eq_true.mpr fun _ _ => rfl
/-- what may come behind a term; behind an expression -/
def NoPar (post : List Tk) : Prop := isSgn post 0 40 = false
def PostE (post : List Tk) : Prop := isSgn post 0 40 = false ∧ isSgn post 0 43 = false
theorem isSgn_app (a b : List Tk) (i c : Nat) : isSgn (a ++ b) (a.length + i) c = isSgn b i c := by
  unfold isSgn
  rw [List.getElem?_append_right (by omega), show a.length + i - a.length = i by omega]
theorem isSgn_end (a b : List Tk) (c : Nat) : isSgn (a ++ b) a.length c = isSgn b 0 c := isSgn_app a b 0 c
theorem isSgn_hd {ts : List Tk} (h : Hd ts) (r : List Tk) (c : Nat) : isSgn (ts ++ r) 0 c = false := by
  obtain ⟨t, q, rfl, ht⟩ := h
  show (decide (t.k = ("sign" : Str)) && decide (t.z = S [c])) = false
  have : ¬ t.k = ("sign" : Str) := by
    rcases ht with e | e <;> rw [e] <;> decide +kernel
  rw [decide_eq_false this, Bool.false_and]
theorem isSgn_G (c d : Nat) (r : List Tk) : isSgn (tG c :: r) 0 d = decide (c = d) := by
  show (decide (("sign" : Str) = ("sign" : Str)) && decide (S [c] = S [d])) = _
  rw [decide_eq_true rfl, Bool.true_and]
  by_cases h : c = d
  · rw [h]
    simp
  · rw [decide_eq_false h, decide_eq_false fun e => h (by have := S_inj e; injection this)]
theorem kqq : decide (V.str ("string" : Str) = V.str ("string" : Str)) = true := by decide +kernel
theorem kws : decide (V.str ("word" : Str) = V.str ("string" : Str)) = false := by decide +kernel
theorem kwg : decide (V.str ("word" : Str) = V.str ("sign" : Str)) = false := by decide +kernel
theorem cparL : ("(" : Str) = S [40] := ext_tl (by decide +kernel)
theorem cparR : (")" : Str) = S [41] := ext_tl (by decide +kernel)
theorem ccom : ("," : Str) = S [44] := ext_tl (by decide +kernel)
theorem cplus : ("+" : Str) = S [43] := ext_tl (by decide +kernel)
section
variable {P : Program} {w : World} {K : PySem.W.Frag} {mg : Str → Option Value} {base : Heap} {φ : Str × Option Str → FuncData}
def spSign : Sp := fun vs H Q _ => ∃ (l : Addr) (j : Int) (i : Nat) (z : Str) (c : Nat) (us : List V) (ts : List Tk), vs = [.ref l, .int j, .str z] ∧ j = (i : Nat) ∧ z = S [c] ∧ H l = some (.lst us) ∧ Tks H us ts ∧ Q (.bl (isSgn ts i c)) H
theorem ok_is_sign (T : Tp w K mg φ) : FnOk P w K mg base CX0 1 (He.ga K "is_sign") (φ ("is_sign", none)) P_is_sign spSign := by
  refine okF T.F_is_sign sc_is_sign (fun vs H Q E h => ?_) (fun cdv A outer s H vs Q E hr h => ?_)
  · obtain ⟨l, j, i, z, c, us, ts, rfl, _⟩ := h
    rfl
  obtain ⟨l, j, i, z, c, us, ts, rfl, rfl, rfl, hl, ht, k⟩ := h
  refine ⟨_, (pss_one (ps_ret (pe_and (pe_cmpR op_lt (pv 1) (pe_callB call_len_seq (by rfl) T.z_len (by decide +kernel) (pa_cons (pv 0) pa_nil)) (nomark _)) (pe_and (pe_cmpR op_eq (pe_ix ix_tup (pe_ix ix_list (pv 0) (pv 1) (fun _ _ => rfl)) pe_int (fun _ _ => rfl)) pe_str (nomark _)) (pe_one (pe_cmpR op_eq (pe_ix ix_tup (pe_ix ix_list (pv 0) (pv 1) (fun _ _ => rfl)) pe_int (fun _ _ => rfl)) (pv 2) (nomark _))))))), ?_⟩
  refine ⟨_, rfl, _, rfl, l, _, rfl, .inl (SqL.of hl), _, _, rfl, rfl, _, rfl, ?_⟩
  by_cases hi : i < ts.length
  · refine itT (decide_eq_true (by have := ht.1; omega)) ?_
    have e : ts[i]? = some ts[i] := List.getElem?_eq_getElem hi
    generalize ts[i] = t at e
    obtain ⟨v, hv, q, col, rfl, hq⟩ := ht.2 i t e
    refine ⟨_, rfl, _, rfl, l, _, _, _, rfl, rfl, SqL.of hl, atI_nat hv, q, _, _, _, rfl, rfl, .inl (.inl hq), rfl, rfl, _, rfl, ?_⟩
    unfold isSgn at k
    rw [e] at k
    by_cases h1 : t.k = ("sign" : Str)
    · have k2 : Q (.bl (decide (t.z = S [c]))) H := by
        have e3 : (decide (t.k = ("sign" : Str)) && decide (t.z = S [c])) = decide (t.z = S [c]) := by rw [decide_eq_true h1, Bool.true_and]
        rw [← e3]
        exact k
      refine itT (decide_eq_true (congrArg V.str h1)) ?_
      refine ⟨_, rfl, _, rfl, l, _, _, _, rfl, rfl, SqL.of hl, atI_nat hv, q, _, _, _, rfl, rfl, .inl (.inl hq), rfl, _, rfl, rfl, ?_⟩
      have e2 : decide (V.str t.z = V.str (S [c])) = decide (t.z = S [c]) := by
        by_cases h2 : t.z = S [c]
        · rw [h2]; simp
        · rw [decide_eq_false h2, decide_eq_false fun q => h2 (V.str.inj q)]
      show Q (.bl (decide (V.str t.z = V.str (S [c])))) H
      rw [e2]
      exact k2
    · refine itF (decide_eq_false fun q => h1 (V.str.inj q)) ?_
      have e3 : (decide (t.k = ("sign" : Str)) && decide (t.z = S [c])) = false := by rw [decide_eq_false h1, Bool.false_and]
      rw [← e3]
      exact k
  · refine itF (decide_eq_false (by have := ht.1; omega)) ?_
    unfold isSgn at k
    rw [List.getElem?_eq_none (by omega)] at k
    exact k

/-! ### the promises: a term, an expression inside of calls, a call; n more calls may stand within -/
/-- the tokens are pre, ts, post; the names are known; the call is at depth d -/
structure Exp (H : Hp) (l kl : Addr) (pre ts post : List Tk) (kn : List Str) : Prop where
  tk : ∃ us, H l = some (.lst us) ∧ Tks H us (pre ++ (ts ++ post))
  kn : H kl = some (.lst (kn.map V.str))
theorem Exp.same {H H' : Hp} {l kl : Addr} {pre ts post : List Tk} {kn : List Str} (h : Exp H l kl pre ts post kn) (e : Same H H') : Exp H' l kl pre ts post kn := by
  obtain ⟨⟨us, h1, h2⟩, h3⟩ := h
  exact ⟨⟨us, e _ _ h1, h2.same e⟩, e _ _ h3⟩
def RetE (K : PySem.W.Frag) (H : Hp) (Q : VK) (e : PyData) (m : Nat) : Prop := ∀ H' v q, Same H H' → H q = none → Dp K H' v e → H' q = some (.tup [v, .int (m : Nat)]) → Q (.ref q) H'
def spEx (K : PySem.W.Frag) (D : List Str → PyData → List Tk → Prop) (Po : List Tk → Prop) (n : Nat) : Sp := fun vs H Q _ => ∃ (l kl : Addr) (j d : Int) (pre ts post : List Tk) (kn : List Str) (e : PyData),
  vs = [.ref l, .int j, .ref kl, .int d] ∧ j = (pre.length : Nat) ∧ 0 ≤ d ∧ d + (n : Nat) ≤ 6 ∧ Exp H l kl pre ts post kn ∧ Po post ∧ D kn e ts ∧ RetE K H Q e (pre.length + ts.length)
abbrev spTerm (K : PySem.W.Frag) (n : Nat) : Sp := spEx K (TmD n) NoPar n
abbrev spTerms (K : PySem.W.Frag) (n : Nat) : Sp := spEx K (ExD n) PostE n
abbrev spCall (K : PySem.W.Frag) (n : Nat) : Sp := spEx K (CallD n) (fun _ => True) n
theorem spEx_len {D : List Str → PyData → List Tk → Prop} {Po : List Tk → Prop} {n : Nat} {vs : List V} {H : Hp} {Q : VK} {E : XK} (h : spEx K D Po n vs H Q E) : vs.length = 4 := by
  obtain ⟨l, kl, j, d, pre, ts, post, kn, e, rfl, _⟩ := h
  rfl
theorem ok_parse_term (T : Tp w K mg φ) (n : Nat) (G_parse_call : FnOk P w K mg base CX0 (3 * n + 1) (He.ga K "parse_call") (φ ("parse_call", none)) P_parse_call (spCall K n)) :
    FnOk P w K mg base CX0 (3 * n + 2) (He.ga K "parse_term") (φ ("parse_term", none)) P_parse_term (spTerm K n) := by
  have G_is_sign := ok_is_sign (P := P) (base := base) T
  have G_is_identifier := ok_is_identifier (P := P) (base := base) T
  refine okF T.F_parse_term sc_parse_term (fun vs H Q E h => spEx_len h) (fun cdv A outer s H vs Q E hr h => ?_)
  obtain ⟨l, kl, j, d, pre, ts, post, kn, e, rfl, rfl, hd0, hdn, hE, hP, hD, k⟩ := h
  have nd := sc_parse_term.nd
  refine ⟨_, (pss_cons (ps_if (pt_cmpR op_ge (pv 1) (pe_callB call_len_seq (by rfl) T.z_len (by decide +kernel) (pa_cons (pv 0) pa_nil)) (nomark _)) 
      (pss_one ps_never) pss_nil)
    (pss_cons (ps_asg (pe_ix ix_list (pv 0) (pv 1) (fun _ _ => rfl)) (pg_tup rfl (pgs_cons (pg_name (i := 4) nd rfl (Or.inl rfl)) (pgs_cons (pg_name (i := 5) nd rfl (Or.inl rfl)) (pgs_cons (pg_name (i := 6) nd rfl (Or.inl rfl)) pgs_nil)))))
    (pss_cons (ps_if (pt_cmpR op_eq (pv 4) pe_str (nomark _)) 
      (pss_one (ps_ret (pe_tup (pa_cons (pe_tup (pa_cons pe_str (pa_cons (pv 5) pa_nil))) (pa_cons (pe_op op_add (pv 1) pe_int) pa_nil))))) pss_nil)
    (pss_cons (ps_if (pt_cmpR op_eq (pv 4) pe_str (nomark _)) 
      (pss_one ps_never) pss_nil)
    (pss_cons (ps_if (pt_val (pe_call G_is_sign (hr.mono (by omega)) rfl T.g_is_sign T.k_is_sign T.b_is_sign .nil pass0 (pa_cons (pv 0) (pa_cons (pe_op op_add (pv 1) pe_int) (pa_cons pe_str pa_nil))))) 
      (pss_one (ps_ret (pe_call G_parse_call (hr.mono (by omega)) rfl T.g_parse_call T.k_parse_call T.b_parse_call .nil pass0 (pa_cons (pv 0) (pa_cons (pv 1) (pa_cons (pv 2) (pa_cons (pv 3) pa_nil))))))) pss_nil)
    (pss_cons (ps_if (pt_not (pt_val (pe_call G_is_identifier (hr.mono (by omega)) rfl T.g_is_identifier T.k_is_identifier T.b_is_identifier .nil pass0 (pa_cons (pv 5) pa_nil)))) 
      (pss_one ps_never) pss_nil)
    (pss_cons (ps_if (pt_cmpR op_notIn_seq (pv 5) (pv 2) (by rfl)) 
      (pss_one ps_never) pss_nil)
    (pss_one (ps_ret (pe_tup (pa_cons (pe_tup (pa_cons pe_str (pa_cons (pv 5) pa_nil))) (pa_cons (pe_op op_add (pv 1) pe_int) pa_nil)))))))))))), ?_⟩
  obtain ⟨⟨us, hl, ht⟩, hkl⟩ := id hE
  have hul : us.length = pre.length + (ts.length + post.length) := by rw [ht.1]; simp
  have hhd : Hd ts := tmD_hd hD
  obtain ⟨t, r, rfl, htk⟩ := id hhd
  obtain ⟨v, hv, q, col, rfl, hq⟩ := ht.2 pre.length t (by simp)
  refine ⟨_, rfl, _, rfl, l, _, rfl, .inl (SqL.of hl), _, _, rfl, rfl, _, rfl, itF (decide_eq_false (by simp at hul; omega)) ?_⟩
  refine ⟨_, rfl, _, rfl, l, _, _, _, rfl, rfl, SqL.of hl, atI_nat hv, q, _, rfl, .inl (.inl hq), rfl, _, _, rfl, _, _, rfl, _, _, rfl, rfl, ?_⟩
  rw [tmD_eq] at hD
  rcases hD with ⟨x, _, rfl, hts⟩ | ⟨x, hx, hid, rfl, hts⟩ | hD
  · injection hts with h1 h2
    subst h1 h2
    refine ⟨_, rfl, rfl, _, rfl, itT kqq ?_⟩
    refine ⟨_, rfl, by show 2 ≤ sizeLine; decide, fun p hp => ?_⟩
    refine ⟨_, rfl, _, _, rfl, rfl, by show 2 ≤ sizeLine; decide, fun p2 hp2 => ?_⟩
    have s1 := same_new hp (.tup [.str "text", .str (S x)])
    have s2 := same_new hp2 (.tup [.ref p, .int ((pre.length : Nat) + 1)])
    refine k _ (.ref p) p2 (s1.trans s2) (s1.free hp2) (dp_tup (s2 _ _ upd_same) (.cons (.str _) (.cons (.str _) .nil))) ?_
    exact upd_same
  · injection hts with h1 h2
    subst h1 h2
    have np : isSgn (pre ++ ([tW x] ++ post)) (pre.length + 1) 40 = false := by
      rw [isSgn_app]
      exact hP
    refine ⟨_, rfl, rfl, _, rfl, itF kws ?_⟩
    refine ⟨_, rfl, rfl, _, rfl, itF kwg ?_⟩
    refine ⟨_, rfl, _, rfl, _, _, rfl, rfl, l, _, pre.length + 1, _, 40, us, _, rfl, by simp, cparL, hl, ht, _, rfl, itF np ?_⟩
    refine ⟨_, rfl, x, rfl, hid, fun H1 s1 => ⟨_, rfl, itF rfl ?_⟩⟩
    refine ⟨_, rfl, _, rfl, kl, _, rfl, .inl (SqL.of (s1 _ _ hkl)), rfl, flat_strs kn, _, rfl, itF ?_ ?_⟩
    · show (!inV (.str x) (kn.map V.str)) = false
      rw [inV_str, decide_eq_true hx] <;> rfl
    refine ⟨_, rfl, by show 2 ≤ sizeLine; decide, fun p hp => ?_⟩
    refine ⟨_, rfl, _, _, rfl, rfl, by show 2 ≤ sizeLine; decide, fun p2 hp2 => ?_⟩
    have s2 := same_new hp (.tup [.str "name", .str x])
    have s3 := same_new hp2 (.tup [.ref p, .int ((pre.length : Nat) + 1)])
    refine k _ (.ref p) p2 (s1.trans (s2.trans s3)) (s1.free (s2.free hp2)) (dp_tup (s3 _ _ upd_same) (.cons (.str _) (.cons (.str _) .nil))) ?_
    exact upd_same
  · obtain ⟨f, es, tss, hts⟩ : ∃ f es tss, t :: r = tW f :: tG 40 :: (tss ++ [tG 41]) ∧ True ∧ es = ([] : List PyData) := by
      match n, hD with
      | n + 1, hD =>
        obtain ⟨f, es, tss, _, _, _, _, h⟩ := hD
        exact ⟨f, [], tss, h, trivial, rfl⟩
    obtain ⟨h1, _, _⟩ := hts
    injection h1 with h1 h2
    subst h1 h2
    have np : isSgn (pre ++ (tW f :: tG 40 :: (tss ++ [tG 41]) ++ post)) (pre.length + 1) 40 = true := by
      rw [isSgn_app]
      show isSgn (tG 40 :: ((tss ++ [tG 41]) ++ post)) 0 40 = true
      rw [isSgn_G] <;> rfl
    refine ⟨_, rfl, rfl, _, rfl, itF kws ?_⟩
    refine ⟨_, rfl, rfl, _, rfl, itF kwg ?_⟩
    refine ⟨_, rfl, _, rfl, _, _, rfl, rfl, l, _, pre.length + 1, _, 40, us, _, rfl, by simp, cparL, hl, ht, _, rfl, itT np ?_⟩
    exact ⟨_, rfl, _, rfl, _, rfl, _, rfl, l, kl, _, d, pre, _, post, kn, e, rfl, rfl, hd0, hdn, hE, trivial, hD, k⟩
end
end Ky

/-! Expressions: the joins, the calls, the whole. -/
namespace Ky
open PySem PySem.Spec PyProof.Rows L2 TL
section
variable {P : Program} {w : World} {K : PySem.W.Frag} {mg : Str → Option Value} {base : Heap} {φ : Str × Option Str → FuncData}
theorem ok_parse_terms (T : Tp w K mg φ) (n : Nat) (G_parse_term : FnOk P w K mg base CX0 (3 * n + 2) (He.ga K "parse_term") (φ ("parse_term", none)) P_parse_term (spTerm K n)) :
    FnOk P w K mg base CX0 (3 * n + 3) (He.ga K "parse_terms") (φ ("parse_terms", none)) P_parse_terms (spTerms K n) := by
  have G_is_sign := ok_is_sign (P := P) (base := base) T
  refine okF T.F_parse_terms sc_parse_terms (fun vs H Q E h => spEx_len h) (fun cdv A outer s H vs Q E hr h => ?_)
  obtain ⟨l, kl, j, d, pre, ts, post, kn, e, rfl, rfl, hd0, hdn, hE, hP, hD, k⟩ := h
  have nd := sc_parse_terms.nd
  refine ⟨_, (pss_cons (ps_asg (pe_call G_parse_term (hr.mono (by omega)) rfl T.g_parse_term T.k_parse_term T.b_parse_term .nil pass0 (pa_cons (pv 0) (pa_cons (pv 1) (pa_cons (pv 2) (pa_cons (pv 3) pa_nil))))) (pg_tup rfl (pgs_cons (pg_name (i := 4) nd rfl (Or.inl rfl)) (pgs_cons (pg_name (i := 5) nd rfl (Or.inl rfl)) pgs_nil))))
    (pss_cons (ps_set (i := 6) nd rfl (Or.inl rfl) (pe_lst (pa_cons (pv 4) pa_nil)))
    (pss_cons (ps_while PassesOwn.never (pt_val (pe_call G_is_sign (hr.mono (by omega)) rfl T.g_is_sign T.k_is_sign T.b_is_sign .nil pass0 (pa_cons (pv 0) (pa_cons (pv 5) (pa_cons pe_str pa_nil))))) 
      (pss_cons (ps_asg (pe_call G_parse_term (hr.mono (by omega)) rfl T.g_parse_term T.k_parse_term T.b_parse_term .nil pass0 (pa_cons (pv 0) (pa_cons (pe_op op_add (pv 5) pe_int) (pa_cons (pv 2) (pa_cons (pv 3) pa_nil))))) (pg_tup rfl (pgs_cons (pg_name (i := 4) nd rfl (Or.inl rfl)) (pgs_cons (pg_name (i := 5) nd rfl (Or.inl rfl)) pgs_nil))))
      (pss_one (ps_expr (pe_bm PySem.F.plainAttrs_list PySem.F.slot_list_append PySem.F.type_list_append mt_append (pv 6) (pa_cons (pv 4) pa_nil))))))
    (pss_cons (ps_if (pt_cmpR op_eq (pe_callB call_len_seq (by rfl) T.z_len (by decide +kernel) (pa_cons (pv 6) pa_nil)) pe_int (nomark _)) 
      (pss_one (ps_ret (pe_tup (pa_cons (pe_ix ix_list (pv 6) pe_int (fun _ _ => rfl)) (pa_cons (pv 5) pa_nil))))) pss_nil)
    (pss_one (ps_ret (pe_tup (pa_cons (pe_tup (pa_cons pe_str (pa_cons (pe_callTy call_tuple_of (by rfl) T.z_tuple (by decide +kernel) (pa_cons (pv 6) pa_nil)) pa_nil))) (pa_cons (pv 5) pa_nil))))))))), ?_⟩
  rw [exD_eq] at hD
  rcases hD with hD | ⟨a, b, ta, tb, hDa, hDb, rfl, rfl⟩
  · refine ⟨_, rfl, _, rfl, _, rfl, _, rfl, l, kl, _, d, pre, ts, post, kn, e, rfl, rfl, hd0, hdn, hE, hP.1, hD, fun H1 v q s1 hq0 hv hq => ?_⟩
    refine ⟨q, _, rfl, .inl (.inl hq), rfl, _, _, rfl, _, _, rfl, rfl, ?_⟩
    refine ⟨_, rfl, by show 1 ≤ sizeLine; decide, fun t0 ht0 => ?_⟩
    have s2 : Same H1 (upd H1 t0 (.lst [v])) := same_new ht0 _
    obtain ⟨⟨us, hl, ht⟩, hkl⟩ := hE.same (s1.trans s2)
    have np : isSgn (pre ++ (ts ++ post)) (pre.length + ts.length) 43 = false := by
      rw [isSgn_app, isSgn_end]
      exact hP.2
    refine ⟨fun m σ H' => m = 0 ∧ σ = [some (.ref l), some (.int (pre.length : Nat)), some (.ref kl), some (.int d), some v, some (.int ((pre.length + ts.length : Nat) : Int)), some (.ref t0)] ∧ H' = upd H1 t0 (.lst [v]), ⟨0, rfl, rfl, rfl⟩, ?_⟩
    rintro m σ H' ⟨rfl, rfl, rfl⟩
    refine ⟨_, rfl, _, rfl, l, _, _, _, 43, us, _, rfl, rfl, cplus, hl, ht, _, rfl, itF np ?_⟩
    refine ⟨_, rfl, t0, _, rfl, .inl (SqL.of upd_same), rfl, _, rfl, itT rfl ?_⟩
    refine ⟨_, rfl, t0, _, _, v, rfl, rfl, SqL.of upd_same, rfl, _, rfl, by show 2 ≤ sizeLine; decide, fun p hp => ?_⟩
    have s3 := same_new hp (.tup [v, .int ((pre.length + ts.length : Nat) : Int)])
    exact k _ v p (s1.trans (s2.trans s3)) (s1.free (s2.free hp)) (dp_same (s2.trans s3) _ _ hv) upd_same
  · have na : NoPar (tG 43 :: tb ++ post) := by
      unfold NoPar
      show isSgn (tG 43 :: (tb ++ post)) 0 40 = false
      rw [isSgn_G] <;> rfl
    have hE1 : Exp H l kl pre ta (tG 43 :: tb ++ post) kn := by
      obtain ⟨⟨us, hl, ht⟩, hkl⟩ := hE
      exact ⟨⟨us, hl, by rw [List.append_assoc] at ht; exact ht⟩, hkl⟩
    refine ⟨_, rfl, _, rfl, _, rfl, _, rfl, l, kl, _, d, pre, ta, _, kn, a, rfl, rfl, hd0, hdn, hE1, na, hDa, fun H1 v q s1 hq0 hv hq => ?_⟩
    refine ⟨q, _, rfl, .inl (.inl hq), rfl, _, _, rfl, _, _, rfl, rfl, ?_⟩
    refine ⟨_, rfl, by show 1 ≤ sizeLine; decide, fun t0 ht0 => ?_⟩
    have s2 : Same H1 (upd H1 t0 (.lst [v])) := same_new ht0 _
    have h00 : H t0 = none := s1.free ht0
    have ha := (tmD_good hDa).tup
    have hb := (tmD_good hDb).tup
    have np1 : isSgn (pre ++ (ta ++ (tG 43 :: tb ++ post))) (pre.length + ta.length) 43 = true := by
      rw [isSgn_app, isSgn_end]
      show isSgn (tG 43 :: (tb ++ post)) 0 43 = true
      rw [isSgn_G] <;> rfl
    have np2 : isSgn (pre ++ ((ta ++ tG 43 :: tb) ++ post)) (pre.length + (ta ++ tG 43 :: tb).length) 43 = false := by
      rw [isSgn_app, isSgn_end]
      exact hP.2
    refine ⟨fun m σ H' => (m = 1 ∧ σ = [some (.ref l), some (.int (pre.length : Nat)), some (.ref kl), some (.int d), some v, some (.int ((pre.length + ta.length : Nat) : Int)), some (.ref t0)] ∧ H' = upd H1 t0 (.lst [v])) ∨
      (m = 0 ∧ ∃ u, σ = [some (.ref l), some (.int (pre.length : Nat)), some (.ref kl), some (.int d), some u, some (.int ((pre.length + (ta ++ tG 43 :: tb).length : Nat) : Int)), some (.ref t0)] ∧ Same H H' ∧ H' t0 = some (.lst [v, u]) ∧ Dp K H' v a ∧ Dp K H' u b), ⟨1, .inl ⟨rfl, rfl, rfl⟩⟩, ?_⟩
    rintro m σ H' (⟨rfl, rfl, rfl⟩ | ⟨rfl, u, rfl, sm, hu0, hva, hub⟩)
    · obtain ⟨⟨us, hl, ht⟩, hkl⟩ := hE1.same (s1.trans s2)
      refine ⟨_, rfl, _, rfl, l, _, _, _, 43, us, _, rfl, rfl, cplus, hl, ht, _, rfl, itT np1 ?_⟩
      refine ⟨_, fun _ _ z => z, ?_⟩
      have hE2 : Exp (upd H1 t0 (.lst [v])) l kl (pre ++ ta ++ [tG 43]) tb post kn := ⟨⟨us, hl, by simpa using ht⟩, hkl⟩
      refine ⟨_, rfl, _, rfl, _, _, rfl, rfl, _, rfl, _, rfl, l, kl, _, d, pre ++ ta ++ [tG 43], tb, post, kn, b, rfl, by simp; omega, hd0, hdn, hE2, hP.1, hDb, fun H3 u q3 s3 hq30 hu hq3 => ?_⟩
      refine ⟨q3, _, rfl, .inl (.inl hq3), rfl, _, _, rfl, _, _, rfl, rfl, ?_⟩
      have h3t : H3 t0 = some (.lst [v]) := s3 _ _ upd_same
      refine ⟨_, rfl, .inl ⟨rfl, _, SqL.of h3t⟩, _, rfl, t0, _, _, rfl, rfl, h3t, by show 1 < sizeLine; decide, ?_⟩
      have fk := FK.lst (.lst [v, u]) h3t
      refine ⟨0, by omega, .inr ⟨rfl, u, ?_, Same.mut (s1.trans (s2.trans s3)) h00, upd_same, fk.dp ha (dp_same (s2.trans s3) _ _ hv), fk.dp hb hu⟩⟩
      have e1 : (pre ++ ta ++ [tG 43]).length + tb.length = pre.length + (ta ++ tG 43 :: tb).length := by simp; omega
      rw [← e1]
      rfl
    · obtain ⟨⟨us, hl, ht⟩, hkl⟩ := hE.same sm
      refine ⟨_, rfl, _, rfl, l, _, _, _, 43, us, _, rfl, rfl, cplus, hl, ht, _, rfl, itF np2 ?_⟩
      refine ⟨_, rfl, t0, _, rfl, .inl (SqL.of hu0), rfl, _, rfl, itF rfl ?_⟩
      refine ⟨_, rfl, t0, _, rfl, .inl ⟨SqL.of hu0, fun p1 hp1 => ?_⟩⟩
      refine ⟨by show 2 ≤ sizeLine; decide, fun p2 hp2 => ?_⟩
      refine ⟨_, rfl, by show 2 ≤ sizeLine; decide, fun p3 hp3 => ?_⟩
      have t1 := same_new hp1 (.tup [v, u])
      have t2 := same_new hp2 (.tup [.str "join", .ref p1])
      have t3 := same_new hp3 (.tup [.ref p2, .int ((pre.length + (ta ++ tG 43 :: tb).length : Nat) : Int)])
      refine k _ (.ref p2) p3 (sm.trans (t1.trans (t2.trans t3))) (sm.free (t1.free (t2.free hp3))) ?_ upd_same
      have e1 : Dp K _ (.ref p1) (.tuple [a, b]) := dp_tup (H := upd H' p1 (.tup [v, u])) upd_same (.cons (dp_same t1 _ _ hva) (.cons (dp_same t1 _ _ hub) .nil))
      have e2 : Dp K _ (.ref p2) (.tuple [dS "join", .tuple [a, b]]) := dp_tup (H := upd (upd H' p1 (.tup [v, u])) p2 (.tup [.str "join", .ref p1])) upd_same (.cons (.str _) (.cons (dp_same t2 _ _ e1) .nil))
      exact dp_same t3 _ _ e2

/-! ### calls -/
theorem ar_look (T : Tp w K mg φ) {f : Str} {k : Nat} (h : Ar f k) : ∃ u, PySem.W.nsIn K (He.ga K "ARGUMENTS") f = some (some u) ∧ RelV (.int (k : Nat)) u := by
  have m := T.more
  unfold ex at m
  obtain ⟨_, m⟩ := Bool.and_eq_true_iff.mp m
  obtain ⟨_, m⟩ := Bool.and_eq_true_iff.mp m
  obtain ⟨_, m⟩ := Bool.and_eq_true_iff.mp m
  exact He.valsB_ok m (q := (f, .int (k : Nat))) h
theorem argL_tup {n : Nat} {kn : List Str} {es : List PyData} {ts : List Tk} (h : ArgL (ExD n kn) es ts) : tupd.all es = true := (gda_lay (argL_good (fun _ _ h => exD_good h) h)).2.1
theorem all_app (a b : List PyData) : tupd.all (a ++ b) = (tupd.all a && tupd.all b) := by
  induction a with
  | nil => rfl
  | cons x r ih =>
    show (tupd x && tupd.all (r ++ b)) = ((tupd x && tupd.all r) && tupd.all b)
    rw [ih, Bool.and_assoc]
theorem argL_pos {X : PyData → List Tk → Prop} {es : List PyData} {ts : List Tk} (h : ArgL X es ts) : 1 ≤ es.length := by
  match es, h with
  | [_], _ => exact Nat.le_refl _
  | _ :: _ :: _, _ => simp
theorem ok_parse_call (T : Tp w K mg φ) (n : Nat) (G_parse_terms : FnOk P w K mg base CX0 (3 * n + 3) (He.ga K "parse_terms") (φ ("parse_terms", none)) P_parse_terms (spTerms K n)) :
    FnOk P w K mg base CX0 (3 * n + 4) (He.ga K "parse_call") (φ ("parse_call", none)) P_parse_call (spCall K (n + 1)) := by
  have G_is_sign := ok_is_sign (P := P) (base := base) T
  refine okF T.F_parse_call sc_parse_call (fun vs H Q E h => spEx_len h) (fun cdv A outer s H vs Q E hr h => ?_)
  obtain ⟨l, kl, j, d, pre, ts, post, kn, e, rfl, rfl, hd0, hdn, hE, hP, hD, k⟩ := h
  have nd := sc_parse_call.nd
  obtain ⟨ess, nn, D_ARGUMENTS⟩ := kdA T
  refine ⟨_, (pss_cons (ps_asg (pe_ix ix_list (pv 0) (pv 1) (fun _ _ => rfl)) (pg_tup rfl (pgs_cons (pg_name (i := 4) nd rfl (Or.inl rfl)) (pgs_cons (pg_name (i := 5) nd rfl (Or.inl rfl)) (pgs_cons (pg_name (i := 6) nd rfl (Or.inl rfl)) pgs_nil)))))
    (pss_cons (ps_if (pt_cmpR op_ge (pv 3) (pe_gint T.i_CALL_LIMIT) (nomark _)) 
      (pss_one ps_never) pss_nil)
    (pss_cons (ps_if (pt_cmpR (op_notIn_kd D_ARGUMENTS) (pv 5) (pe_gref T.g_ARGUMENTS) (by rfl)) 
      (pss_one ps_never) pss_nil)
    (pss_cons (ps_set (i := 7) nd rfl (Or.inl rfl) (pe_lst pa_nil))
    (pss_cons (ps_set (i := 8) nd rfl (Or.inl rfl) (pe_op op_add (pv 1) pe_int))
    (pss_one (ps_while PassesOwn.never (pt_val pe_bl) 
      (pss_cons (ps_if (pt_val (pe_call G_is_sign (hr.mono (by omega)) rfl T.g_is_sign T.k_is_sign T.b_is_sign .nil pass0 (pa_cons (pv 0) (pa_cons (pv 8) (pa_cons pe_str pa_nil))))) 
        (pss_one ps_never) pss_nil)
      (pss_cons (ps_asg (pe_call G_parse_terms (hr.mono (by omega)) rfl T.g_parse_terms T.k_parse_terms T.b_parse_terms .nil pass0 (pa_cons (pv 0) (pa_cons (pv 8) (pa_cons (pv 2) (pa_cons (pe_op op_add (pv 3) pe_int) pa_nil))))) (pg_tup rfl (pgs_cons (pg_name (i := 9) nd rfl (Or.inl rfl)) (pgs_cons (pg_name (i := 8) nd rfl (Or.inl rfl)) pgs_nil))))
      (pss_cons (ps_expr (pe_bm PySem.F.plainAttrs_list PySem.F.slot_list_append PySem.F.type_list_append mt_append (pv 7) (pa_cons (pv 9) pa_nil)))
      (pss_cons (ps_if (pt_cmpR op_ge (pv 8) (pe_callB call_len_seq (by rfl) T.z_len (by decide +kernel) (pa_cons (pv 0) pa_nil)) (nomark _)) 
        (pss_one ps_never) pss_nil)
      (pss_cons (ps_set (i := 10) nd rfl (Or.inl rfl) (pe_cmpR op_eq (pe_callB call_len_seq (by rfl) T.z_len (by decide +kernel) (pa_cons (pv 7) pa_nil)) (pe_ix ix_kdict (pe_gref T.g_ARGUMENTS) (pv 5) (fun _ _ => rfl)) (nomark _)))
      (pss_cons (ps_if (pt_val (pe_call G_is_sign (hr.mono (by omega)) rfl T.g_is_sign T.k_is_sign T.b_is_sign .nil pass0 (pa_cons (pv 0) (pa_cons (pv 8) (pa_cons pe_str pa_nil))))) 
        (pss_cons (ps_if (pt_not (pt_val (pv 10))) 
          (pss_one ps_never) pss_nil)
        (pss_one (ps_ret (pe_tup (pa_cons (pe_tup (pa_cons pe_str (pa_cons (pv 5) (pa_cons (pe_callTy call_tuple_of (by rfl) T.z_tuple (by decide +kernel) (pa_cons (pv 7) pa_nil)) pa_nil)))) (pa_cons (pe_op op_add (pv 8) pe_int) pa_nil)))))) pss_nil)
      (pss_cons (ps_if (pt_not (pt_val (pe_call G_is_sign (hr.mono (by omega)) rfl T.g_is_sign T.k_is_sign T.b_is_sign .nil pass0 (pa_cons (pv 0) (pa_cons (pv 8) (pa_cons pe_str pa_nil)))))) 
        (pss_one ps_never) pss_nil)
      (pss_cons (ps_if (pt_val (pv 10)) 
        (pss_one ps_never) pss_nil)
      (pss_one (ps_aug (i := 8) nd rfl (Or.inl rfl) pe_int ip_add))))))))))))))))), ?_⟩
  obtain ⟨f, es, tss, hAr, hf, hA, rfl, rfl⟩ := hD
  obtain ⟨u, hu, ru⟩ := ar_look T hAr
  have hd5 : d + (n : Nat) + 1 ≤ 6 := by simpa [Int.add_assoc] using hdn
  obtain ⟨⟨us, hl, ht⟩, hkl⟩ := id hE
  obtain ⟨v, hv, q, col, rfl, hq⟩ := ht.2 pre.length (tW f) (by simp)
  refine ⟨_, rfl, _, rfl, l, _, _, _, rfl, rfl, SqL.of hl, atI_nat hv, q, _, rfl, .inl (.inl hq), rfl, _, _, rfl, _, _, rfl, _, _, rfl, rfl, ?_⟩
  refine ⟨_, rfl, _, _, rfl, rfl, _, rfl, itF (decide_eq_false (by omega)) ?_⟩
  refine ⟨_, rfl, f, _, rfl, rfl, hu, _, rfl, itF rfl ?_⟩
  refine ⟨Nat.zero_le _, fun al ha0 => ?_⟩
  refine ⟨_, rfl, _, _, rfl, rfl, ?_⟩
  have hal : H al = none := ha0
  refine ⟨fun m σ H' => ∃ ds es2 pre2 tss2 vs2 x9 x10, es = ds ++ es2 ∧ m = es2.length ∧ ArgL (ExD n kn) es2 tss2 ∧ pre ++ (tW f :: tG 40 :: (tss ++ [tG 41]) ++ post) = pre2 ++ (tss2 ++ (tG 41 :: post)) ∧ tupd.all ds = true ∧
    σ = [some (.ref l), some (.int (pre.length : Nat)), some (.ref kl), some (.int d), some (.str "word"), some (.str f), some (.int col), some (.ref al), some (.int (pre2.length : Nat)), x9, x10] ∧ Same H H' ∧ H' al = some (.lst vs2) ∧ DpAll K H' vs2 ds,
    ⟨_, [], es, pre ++ [tW f, tG 40], tss, [], none, none, rfl, rfl, hA, by simp, rfl, ?_, same_new ha0 _, upd_same, .nil⟩, ?_⟩
  · have e1 : ((pre ++ [tW f, tG 40]).length : Nat) = pre.length + 2 := by simp
    rw [e1]
    rfl
  rintro m σ H' ⟨ds, es2, pre2, tss2, vs2, x9, x10, hes, rfl, hA2, hts, htd, rfl, sm, hal2, hda⟩
  have hlen2 : pre.length + ((tW f :: tG 40 :: (tss ++ [tG 41])).length + post.length) = pre2.length + (tss2.length + (1 + post.length)) := by
    have := congrArg List.length hts
    simp at this ⊢
    omega
  refine ⟨_, rfl, itT rfl ⟨_, fun _ _ z => z, ?_⟩⟩
  obtain ⟨⟨us1, hl1, ht1⟩, hkl1⟩ := hE.same sm
  rw [hts] at ht1
  have np0 : isSgn (pre2 ++ (tss2 ++ (tG 41 :: post))) pre2.length 41 = false := by
    rw [isSgn_end]
    exact isSgn_hd (argL_hd hA2) _ _
  refine ⟨_, rfl, _, rfl, l, _, _, _, 41, us1, _, rfl, rfl, cparR, hl1, ht1, _, rfl, itF np0 ?_⟩
  -- the next argument: e1, its tokens t1, what follows
  obtain ⟨e1, es3, t1, rest, hes2, hX, htt, hrest⟩ : ∃ e1 es3 t1 rest, es2 = e1 :: es3 ∧ ExD n kn e1 t1 ∧ tss2 ++ (tG 41 :: post) = t1 ++ rest ∧
      ((es3 = [] ∧ rest = tG 41 :: post) ∨ ∃ b, ArgL (ExD n kn) es3 b ∧ rest = tG 44 :: (b ++ (tG 41 :: post))) := by
    match es2, hA2 with
    | [e1], h => exact ⟨e1, [], tss2, _, rfl, h, rfl, .inl ⟨rfl, rfl⟩⟩
    | e1 :: f1 :: es4, ⟨a, b, h1, h2, h3⟩ => exact ⟨e1, f1 :: es4, a, _, rfl, h1, by rw [h3]; simp, .inr ⟨b, h2, rfl⟩⟩
  subst hes2
  rw [htt] at ht1
  have hPr : PostE rest := by
    rcases hrest with ⟨_, rfl⟩ | ⟨b, _, rfl⟩ <;> exact ⟨by rw [isSgn_G] <;> rfl, by rw [isSgn_G] <;> rfl⟩
  have hE2 : Exp H' l kl pre2 t1 rest kn := ⟨⟨us1, hl1, ht1⟩, hkl1⟩
  refine ⟨_, rfl, _, rfl, _, rfl, _, rfl, _, _, rfl, rfl, l, kl, _, _, pre2, t1, rest, kn, e1, rfl, rfl, by omega, by omega, hE2, hPr, hX, fun H3 v3 q3 s3 hq30 hv3 hq3 => ?_⟩
  refine ⟨q3, _, rfl, .inl (.inl hq3), rfl, _, _, rfl, _, _, rfl, rfl, ?_⟩
  have h3a : H3 al = some (.lst vs2) := s3 _ _ hal2
  have hvl : vs2.length = ds.length := dpa_len _ _ hda
  have hargs : es.length ≤ 3 := by
    have key : ∀ q ∈ argV, ∀ i : Nat, q.2 = He.Dv.int (i : Int) → i ≤ 3 := by
      intro q hq i hi
      unfold argV at hq
      simp only [List.mem_cons, List.not_mem_nil, or_false] at hq
      rcases hq with rfl | rfl | rfl | rfl | rfl | rfl | rfl | rfl | rfl | rfl | rfl | rfl | rfl <;> (injection hi with hi; omega)
    exact key _ hAr _ rfl
  have hdl : ds.length + (es3.length + 1) = es.length := by rw [hes]; simp
  refine ⟨_, rfl, .inl ⟨rfl, _, SqL.of h3a⟩, _, rfl, al, _, _, rfl, rfl, h3a, szl (by omega), ?_⟩
  have fk := FK.lst (.lst (vs2 ++ [v3])) h3a
  have hgt := (exD_good hX).tup
  have sm4 : Same H (upd H3 al (.lst (vs2 ++ [v3]))) := Same.mut (sm.trans s3) hal
  obtain ⟨⟨us4, hl4, ht4⟩, hkl4⟩ := hE.same sm4
  rw [hts, htt] at ht4
  have hda4 : DpAll K (upd H3 al (.lst (vs2 ++ [v3]))) (vs2 ++ [v3]) (ds ++ [e1]) := dpa_snoc (fk.dp hgt hv3) _ _ (fk.dpa htd (dpa_same s3 _ _ hda))
  have htd4 : tupd.all (ds ++ [e1]) = true := by
    rw [all_app, htd]
    show (true && (tupd e1 && true)) = true
    rw [hgt] <;> rfl
  have hur : us4.length = pre2.length + (t1.length + rest.length) := by rw [ht4.1]; simp
  have hr1 : 1 ≤ rest.length := by rcases hrest with ⟨_, rfl⟩ | ⟨b, _, rfl⟩ <;> simp
  refine ⟨_, rfl, _, rfl, l, _, rfl, .inl (SqL.of hl4), _, _, rfl, rfl, _, rfl, itF (decide_eq_false (by omega)) ?_⟩
  refine ⟨_, rfl, al, _, rfl, .inl (SqL.of upd_same), _, rfl, _, _, _, rfl, rfl, ⟨_, _, u, D_ARGUMENTS.at_, D_ARGUMENTS.lit, hu, ru⟩, rfl, ?_⟩
  have isg : ∀ c, isSgn (pre2 ++ (t1 ++ rest)) (pre2.length + t1.length) c = isSgn rest 0 c := fun c => by rw [isSgn_app, isSgn_end]
  refine ⟨_, rfl, _, rfl, l, _, _, _, 41, us4, _, rfl, rfl, cparR, hl4, ht4, _, rfl, ?_⟩
  rcases hrest with ⟨rfl, rfl⟩ | ⟨b, hb, rfl⟩
  · refine itT (by rw [isg, isSgn_G] <;> rfl) ?_
    refine ⟨_, rfl, _, rfl, itF ?_ ?_⟩
    · have e9 : ((vs2 ++ [v3]).length : Int) = ((es.length : Nat) : Int) := by rw [hes]; simp; omega
      rw [e9]
      simp
    refine ⟨_, rfl, _, rfl, al, _, rfl, .inl ⟨SqL.of upd_same, fun p1 hp1 => ?_⟩⟩
    refine ⟨by show 3 ≤ sizeLine; decide, fun p2 hp2 => ?_⟩
    refine ⟨_, rfl, _, _, rfl, rfl, by show 2 ≤ sizeLine; decide, fun p3 hp3 => ?_⟩
    have t1' := same_new hp1 (.tup (vs2 ++ [v3]))
    have t2' := same_new hp2 (.tup [.str "call", .str f, .ref p1])
    have t3' := same_new hp3 (.tup [.ref p2, .int (((pre2.length + t1.length : Nat) : Int) + 1)])
    have hes' : es = ds ++ [e1] := hes
    have q1 : Dp K (upd (upd H3 al (.lst (vs2 ++ [v3]))) p1 (.tup (vs2 ++ [v3]))) (.ref p1) (.tuple es) := by
      rw [hes']
      exact dp_tup upd_same (dpa_same t1' _ _ hda4)
    have q2 : Dp K (upd (upd (upd H3 al (.lst (vs2 ++ [v3]))) p1 (.tup (vs2 ++ [v3]))) p2 (.tup [.str "call", .str f, .ref p1])) (.ref p2) (.tuple [dS "call", dS f, .tuple es]) := dp_tup (H := upd (upd (upd H3 al (.lst (vs2 ++ [v3]))) p1 (.tup (vs2 ++ [v3]))) p2 (.tup [.str "call", .str f, .ref p1])) upd_same (.cons (.str _) (.cons (.str _) (.cons (dp_same t2' _ _ q1) .nil)))
    refine k _ (.ref p2) p3 (sm4.trans (t1'.trans (t2'.trans t3'))) (sm4.free (t1'.free (t2'.free hp3))) (dp_same t3' _ _ q2) ?_
    have hh := congrArg List.length htt
    have e5 : ((pre.length + (tW f :: tG 40 :: (tss ++ [tG 41])).length : Nat) : Int) = ((pre2.length + t1.length : Nat) : Int) + 1 := by
      simp at hh hlen2 ⊢
      omega
    rw [e5]
    exact upd_same
  · refine itF (by rw [isg, isSgn_G] <;> rfl) ?_
    refine ⟨_, rfl, _, rfl, l, _, _, _, 44, us4, _, rfl, rfl, ccom, hl4, ht4, _, rfl, itF (nb (by rw [isg, isSgn_G] <;> rfl)) ?_⟩
    refine ⟨_, rfl, _, rfl, itF ?_ ?_⟩
    · have hb1 := argL_pos hb
      refine decide_eq_false fun e => ?_
      have e2 := V.int.inj e
      simp at e2
      omega
    refine ⟨_, rfl, _, _, rfl, rfl, ?_⟩
    refine ⟨es3.length, by simp, ds ++ [e1], es3, pre2 ++ t1 ++ [tG 44], b, vs2 ++ [v3], some v3, some (V.bl (decide (V.int ((vs2 ++ [v3]).length : Nat) = V.int (es.length : Nat)))), by rw [hes]; simp, rfl, hb, by rw [hts, htt]; simp, htd4, ?_, sm4, upd_same, hda4⟩
    have e6 : ((pre2 ++ t1 ++ [tG 44]).length : Nat) = pre2.length + t1.length + 1 := by simp; omega
    rw [e6]
    rfl

theorem ok_exprs (T : Tp w K mg φ) : ∀ n : Nat, FnOk P w K mg base CX0 (3 * n + 3) (He.ga K "parse_terms") (φ ("parse_terms", none)) P_parse_terms (spTerms K n)
  | 0 => ok_parse_terms T 0 (ok_parse_term T 0 (fnOk_never fun vs H Q E h => by
      obtain ⟨l, kl, j, d, pre, ts, post, kn, e, _, _, _, _, _, _, h, _⟩ := h
      exact h))
  | n + 1 => ok_parse_terms T (n + 1) (ok_parse_term T (n + 1) ((ok_parse_call T n (ok_exprs T n)).mono (by omega)))
/-- the whole: up to three calls within one another -/
def spExpr (K : PySem.W.Frag) : Sp := fun vs H Q _ => ∃ (l kl : Addr) (j : Int) (pre ts : List Tk) (kn : List Str) (e : PyData),
  vs = [.ref l, .int j, .ref kl] ∧ j = (pre.length : Nat) ∧ Exp H l kl pre ts [] kn ∧ ExD 2 kn e ts ∧ RetE K H Q e (pre.length + ts.length)
theorem ok_parse_expression (T : Tp w K mg φ) : FnOk P w K mg base CX0 10 (He.ga K "parse_expression") (φ ("parse_expression", none)) P_parse_expression (spExpr K) := by
  have G_parse_terms := ok_exprs (P := P) (base := base) T 2
  refine okF T.F_parse_expression sc_parse_expression (fun vs H Q E h => ?_) (fun cdv A outer s H vs Q E hr h => ?_)
  · obtain ⟨l, kl, j, pre, ts, kn, e, rfl, _⟩ := h
    rfl
  obtain ⟨l, kl, j, pre, ts, kn, e, rfl, rfl, hE, hD, k⟩ := h
  refine ⟨_, (pss_one (ps_ret (pe_call G_parse_terms (hr.mono (by omega)) rfl T.g_parse_terms T.k_parse_terms T.b_parse_terms .nil pass0 (pa_cons (pv 0) (pa_cons (pv 1) (pa_cons (pv 2) (pa_cons pe_int pa_nil))))))), ?_⟩
  exact ⟨_, rfl, _, rfl, _, rfl, l, kl, _, _, pre, ts, [], kn, e, rfl, rfl, by omega, by decide, hE, ⟨rfl, rfl⟩, hD, k⟩
def spRead (K : PySem.W.Frag) : Sp := fun vs H Q _ => ∃ (p kl : Addr) (j : Int) (pre ts : List Tk) (kn : List Str) (e : PyData),
  vs = [.ref p, .int j, .ref kl] ∧ j = (pre.length : Nat) ∧ LnAt K H p (pre ++ ts) ∧ H kl = some (.lst (kn.map V.str)) ∧ ExD 2 kn e ts ∧ ∀ H' v, Same H H' → Dp K H' v e → Q v H'
theorem ok_read_expression (T : Tp w K mg φ) : FnOk P w K mg base CX0 11 (He.ga K "read_expression") (φ ("read_expression", none)) P_read_expression (spRead K) := by
  have G_parse_expression := ok_parse_expression (P := P) (base := base) T
  have G_Line_finish := ok_Line_finish (P := P) (base := base) T
  refine okF T.F_read_expression sc_read_expression (fun vs H Q E h => ?_) (fun cdv A outer s H vs Q E hr h => ?_)
  · obtain ⟨p, kl, j, pre, ts, kn, e, rfl, _⟩ := h
    rfl
  obtain ⟨p, kl, j, pre, ts, kn, e, rfl, rfl, hL, hkl, hD, k⟩ := h
  have nd := sc_read_expression.nd
  refine ⟨_, (pss_cons (ps_try_thru0 
      (pss_one (ps_asg (pe_call G_parse_expression (hr.mono (by omega)) rfl T.g_parse_expression T.k_parse_expression T.b_parse_expression .nil pass0 (pa_cons (pe_fld (pv 0) rfl) (pa_cons (pv 1) (pa_cons (pv 2) pa_nil)))) (pg_tup rfl (pgs_cons (pg_name (i := 3) nd rfl (Or.inl rfl)) (pgs_cons (pg_name (i := 4) nd rfl (Or.inl rfl)) pgs_nil))))))
    (pss_cons (ps_expr (pe_meth (pv 0) T.c_Line T.m_Line_finish G_Line_finish (hr.mono (by omega)) T.b_Line_finish .nil pass0 (pa_cons (pv 4) pa_nil)))
    (pss_one (ps_ret (pv 3))))), ?_⟩
  obtain ⟨dx, a, b, l, ec, us, h1, h2, h3⟩ := id hL
  refine ⟨_, rfl, p, _, dx, _, _, rfl, h1, T.c_Line, T.n_Line_tokens, rfl, _, rfl, _, rfl, l, kl, _, pre, ts, kn, e, rfl, rfl, ⟨⟨us, h2, by rw [List.append_nil]; exact h3⟩, hkl⟩, hD, fun H1 v q s1 hq0 hv hq => ?_⟩
  refine ⟨q, _, rfl, .inl (.inl hq), rfl, _, _, rfl, _, _, rfl, rfl, ?_⟩
  refine ⟨_, rfl, p, dx, _, rfl, s1 _ _ h1, rfl, _, rfl, p, pre.length + ts.length, _, rfl, hL.same s1, by simp, ?_⟩
  exact ⟨_, rfl, k H1 v s1 hv⟩
end
end Ky

/-! Statements and bodies: their data and their lines' tokens. -/
namespace Ky
open PySem PySem.Spec PyProof.Rows L2 TL
abbrev Toks := List Tk
/-- the digit of an output's number -/
def numZ (k : Nat) : Str := S [48 + k]
abbrev Stm := List Str → PyData → List Toks → List Str → Nat → Prop
/-- put, fail, let -/
def StB (outs : Nat) : Stm := fun kn d ls kn' c =>
  (∃ k e ts, 1 ≤ k ∧ k ≤ 3 ∧ k ≤ outs ∧ ExD 2 kn e ts ∧ d = .tuple [dS "put", .int (k : Nat), e] ∧ ls = [tW "put" :: tW (numZ k) :: ts] ∧ kn' = kn ∧ c = 1) ∨
  (d = .tuple [dS "fail"] ∧ ls = [[tW "fail"]] ∧ kn' = kn ∧ c = 1) ∨
  (∃ x e ts, idn (tl x) = true ∧ x ≠ ("stem" : Str) ∧ ExD 2 kn e ts ∧ d = .tuple [dS "let", dS x, e] ∧ ls = [tW "let" :: tW x :: ts] ∧ kn' = (if x ∈ kn then kn else kn ++ [x]) ∧ c = 1)
abbrev Bod := List Str → List PyData → List Toks → Nat → Prop
/-- each, if -/
def StC (B : Bod) : Stm := fun kn d ls kn' c =>
  (∃ x e ts body bl c1, idn (tl x) = true ∧ x ≠ ("stem" : Str) ∧ ExD 2 kn e ts ∧ B (kn ++ [x]) body bl c1 ∧ d = .tuple [dS "each", dS x, e, .tuple body] ∧ ls = (tW "each" :: tW x :: tW "in" :: ts) :: (bl ++ [[tW "end"]]) ∧ kn' = kn ∧ c = c1 + 1) ∨
  (∃ e ts b1 l1 c1 b2 l2 c2, ExD 2 kn e ts ∧ B kn b1 l1 c1 ∧ d = .tuple [dS "if", e, .tuple b1, .tuple b2] ∧ kn' = kn ∧ c = c1 + c2 + 1 ∧
    ((b2 = [] ∧ c2 = 0 ∧ ls = (tW "if" :: ts) :: (l1 ++ [[tW "end"]])) ∨ (B kn b2 l2 c2 ∧ ls = (tW "if" :: ts) :: (l1 ++ ([] :: [tW "else"] :: (l2 ++ [[tW "end"]]))))))
inductive Blk (St : Stm) : Bod
  | nil {kn : List Str} : Blk St kn [] [] 0
  | cons {kn kn' : List Str} {d : PyData} {ds : List PyData} {ls lss : List Toks} {c c' : Nat} : St kn d ls kn' c → Blk St kn' ds lss c' → Blk St kn (d :: ds) (ls ++ lss) (c + c')
def StD (outs : Nat) : Nat → Stm
  | 0 => StB outs
  | n + 1 => fun kn d ls kn' c => StB outs kn d ls kn' c ∨ StC (Blk (StD outs n)) kn d ls kn' c
abbrev BkD (outs n : Nat) : Bod := Blk (StD outs n)
/-- the words that begin a statement -/
def stW : List Str := ["let", "put", "if", "each", "fail"]
theorem stD_hd {outs : Nat} : ∀ {n : Nat} {kn kn' : List Str} {d : PyData} {ls : List Toks} {c : Nat}, StD outs n kn d ls kn' c → ∃ x r rest, x ∈ stW ∧ ls = (tW x :: r) :: rest := by
  have hB : ∀ {kn kn' : List Str} {d : PyData} {ls : List Toks} {c : Nat}, StB outs kn d ls kn' c → ∃ x r rest, x ∈ stW ∧ ls = (tW x :: r) :: rest := by
    intro kn kn' d ls c h
    rcases h with ⟨k, e, ts, _, _, _, _, _, rfl, _, _⟩ | ⟨_, rfl, _, _⟩ | ⟨x, e, ts, _, _, _, _, rfl, _, _⟩
    · exact ⟨_, _, _, by decide +kernel, rfl⟩
    · exact ⟨_, _, _, by decide +kernel, rfl⟩
    · exact ⟨_, _, _, by decide +kernel, rfl⟩
  intro n kn kn' d ls c h
  cases n with
  | zero => exact hB h
  | succ n =>
    rcases h with h | ⟨x, e, ts, body, bl, c1, _, _, _, _, _, rfl, _, _⟩ | ⟨e, ts, b1, l1, c1, b2, l2, c2, _, _, _, _, _, ⟨_, _, rfl⟩ | ⟨_, rfl⟩⟩
    · exact hB h
    · exact ⟨_, _, _, by decide +kernel, rfl⟩
    · exact ⟨_, _, _, by decide +kernel, rfl⟩
    · exact ⟨_, _, _, by decide +kernel, rfl⟩
/-! ### the data are good -/
theorem stB_good {outs : Nat} {kn kn' : List Str} {d : PyData} {ls : List Toks} {c : Nat} (h : StB outs kn d ls kn' c) : Gd 12 d := by
  rcases h with ⟨k, e, ts, _, _, _, hE, rfl, _⟩ | ⟨rfl, _⟩ | ⟨x, e, ts, hx, _, hE, rfl, _⟩
  · exact .tuple (.cons (.str (by decide +kernel)) (.cons ⟨rfl, rfl, Nat.zero_le _⟩ (.cons (exD_good hE) .nil)))
  · exact .tuple (.cons (.str (by decide +kernel)) .nil)
  · exact .tuple (.cons (.str (by decide +kernel)) (.cons (.str (asc_idn hx)) (.cons (exD_good hE) .nil)))
theorem blk_good {St : Stm} {k : Nat} (hS : ∀ {kn d ls kn' c}, St kn d ls kn' c → Gd k d) : ∀ {kn : List Str} {ds : List PyData} {ls : List Toks} {c : Nat}, Blk St kn ds ls c → GdA k ds := by
  intro kn ds ls c h
  induction h with
  | nil => exact .nil
  | cons h _ ih => exact .cons (hS h) ih
theorem stD_good {outs : Nat} : ∀ {n : Nat} {kn kn' : List Str} {d : PyData} {ls : List Toks} {c : Nat}, StD outs n kn d ls kn' c → Gd (12 + 2 * n) d
  | 0, _, _, _, _, _, h => stB_good h
  | n + 1, kn, kn', d, ls, c, h => by
    have e12 : 12 + 2 * (n + 1) = (12 + 2 * n + 1) + 1 := by omega
    rw [e12]
    have ih : ∀ {kn d ls kn' c}, StD outs n kn d ls kn' c → Gd (12 + 2 * n) d := fun h => stD_good h
    rcases h with h | ⟨x, e, ts, body, bl, c1, hx, _, hE, hB, rfl, _⟩ | ⟨e, ts, b1, l1, c1, b2, l2, c2, hE, h1, rfl, _, _, h2⟩
    · exact (stB_good h).mono (by omega)
    · exact .tuple (.cons (.str (by decide +kernel)) (.cons (.str (asc_idn hx)) (.cons ((exD_good hE).mono (by omega)) (.cons (.tuple (blk_good ih hB)) .nil))))
    · refine .tuple (.cons (.str (by decide +kernel)) (.cons ((exD_good hE).mono (by omega)) (.cons (.tuple (blk_good ih h1)) (.cons ?_ .nil))))
      rcases h2 with ⟨rfl, _, _⟩ | ⟨h2, _⟩
      · exact .tuple .nil
      · exact .tuple (blk_good ih h2)
theorem blk_len {St : Stm} (h1 : ∀ {kn d ls kn' c}, St kn d ls kn' c → 1 ≤ c) : ∀ {kn : List Str} {ds : List PyData} {ls : List Toks} {c : Nat}, Blk St kn ds ls c → ds.length ≤ c := by
  intro kn ds ls c h
  induction h with
  | nil => exact Nat.le_refl _
  | cons h _ ih => have := h1 h; rw [List.length_cons]; omega
theorem stD_pos {outs : Nat} {n : Nat} {kn kn' : List Str} {d : PyData} {ls : List Toks} {c : Nat} (h : StD outs n kn d ls kn' c) : 1 ≤ c := by
  have hB : ∀ {kn kn' : List Str} {d : PyData} {ls : List Toks} {c : Nat}, StB outs kn d ls kn' c → 1 ≤ c := by
    intro kn kn' d ls c h
    rcases h with ⟨k, e, ts, _, _, _, _, _, _, _, h⟩ | ⟨_, _, _, h⟩ | ⟨x, e, ts, _, _, _, _, _, _, h⟩ <;> omega
  cases n with
  | zero => exact hB h
  | succ n =>
    rcases h with h | ⟨x, e, ts, body, bl, c1, _, _, _, _, _, _, _, h⟩ | ⟨e, ts, b1, l1, c1, b2, l2, c2, _, _, _, _, h, _⟩
    · exact hB h
    · omega
    · omega
/-! ### the reader's object -/
/-- the lines and their tokens -/
def Lns (zs : List Str) (tls : List Toks) : Prop := zs.length = tls.length ∧ ∀ (i : Nat) (z : Str) (ts : Toks), zs[i]? = some z → tls[i]? = some ts → LL (tl z) ts ∧ z.length ≤ 1000
def rdF (a : V) (l : Addr) (i oc sc : Nat) : List (Str × V) := [("path", a), ("lines", .ref l), ("at", .int (i : Nat)), ("output_count", .int (oc : Nat)), ("statement_count", .int (sc : Nat))]
/-- a reader stands at p: its dict, its path, its list; at the i-th line, with sc statements -/
structure RdAt (K : PySem.W.Frag) (H : Hp) (p dx : Addr) (a : V) (l : Addr) (zs : List Str) (i oc sc : Nat) : Prop where
  ob : H p = some (.ins (He.ga K "BodyReader") dx (rdF a l i oc sc))
  ls : H l = some (.lst (zs.map V.str))
/-- all but what stands at p is as it was -/
def But (p : Addr) (H H' : Hp) : Prop := ∀ c o, H c = some o → c ≠ p → H' c = some o
theorem But.same {p : Addr} {H H' : Hp} (e : Same H H') : But p H H' := fun c o h _ => e c o h
theorem But.trans {p : Addr} {H H1 H2 : Hp} (a : But p H H1) (b : But p H1 H2) : But p H H2 := fun c o h hc => b c o (a c o h hc) hc
theorem But.upd {p : Addr} {H : Hp} (o : HO) : But p H (upd H p o) := fun c u h hc => by
  rw [upd_ne hc]
  exact h
theorem But.fk {p : Addr} {H H' : Hp} (b : But p H H') (h : Nt (H p)) : FK H H' := by
  refine ⟨fun c xs e => b c _ e fun z => ?_, fun c o u e => b c _ e fun z => ?_⟩
  · rw [← z, e] at h; exact h
  · rw [← z, e] at h; exact h
theorem RdAt.nt {K : PySem.W.Frag} {H : Hp} {p dx : Addr} {a : V} {l : Addr} {zs : List Str} {i oc sc : Nat} (h : RdAt K H p dx a l zs i oc sc) : Nt (H p) := by
  rw [h.ob]
  trivial
theorem RdAt.ne {K : PySem.W.Frag} {H : Hp} {p dx : Addr} {a : V} {l : Addr} {zs : List Str} {i oc sc : Nat} (h : RdAt K H p dx a l zs i oc sc) : l ≠ p := ne_of h.ls h.ob (by intro q; cases q)
theorem RdAt.same {K : PySem.W.Frag} {H H' : Hp} {p dx : Addr} {a : V} {l : Addr} {zs : List Str} {i oc sc : Nat} (h : RdAt K H p dx a l zs i oc sc) (e : Same H H') : RdAt K H' p dx a l zs i oc sc := ⟨e _ _ h.ob, e _ _ h.ls⟩
theorem But.ln {K : PySem.W.Frag} {p q : Addr} {H H' : Hp} {ts : Toks} (b : But p H H') (h : LnAt K H q ts) (hp : Nt (H p)) (hq : q ≠ p) (hl : ∀ dx x y l ec, H q = some (.ins (He.ga K "Line") dx (lineF x y l ec)) → l ≠ p) : LnAt K H' q ts := by
  obtain ⟨dx, x, y, l, ec, us, h1, h2, h3⟩ := h
  exact ⟨dx, x, y, l, ec, us, b _ _ h1 hq, b _ _ h2 (hl _ _ _ _ _ h1), (b.fk hp).tks h3⟩
/-- the tokens from a place on -/
theorem drop_step {α : Type} {l a b : List α} {i : Nat} (h : l.drop i = a ++ b) : l.drop (i + a.length) = b := by
  rw [← List.drop_drop, h, List.drop_left]
theorem drop_get {α : Type} {l r : List α} {x : α} {i : Nat} (h : l.drop i = x :: r) : l[i]? = some x := by
  have := congrArg (fun m => m[0]?) h
  simpa using this
end Ky

/-! The body's reader: its making, the next line, put. -/
namespace Ky
open PySem PySem.Spec PyProof.Rows L2 TL
theorem But.ln' {K : PySem.W.Frag} {p q C dx : Addr} {fs : List (Str × V)} {H H' : Hp} {ts : Toks} (b : But p H H') (h : LnAt K H q ts) (hp : H p = some (.ins C dx fs)) (hq : q ≠ p) : LnAt K H' q ts := by
  obtain ⟨dx', x, y, l, ec, us, h1, h2, h3⟩ := h
  exact ⟨dx', x, y, l, ec, us, b _ _ h1 hq, b _ _ h2 (ne_of h2 hp (by intro z; cases z)), (b.fk (by rw [hp]; trivial)).tks h3⟩
/-- a new instance and its __init__: what stood stands -/
theorem made_keep {H H1 : Hp} {x dx C : Addr} (nx : H x = none) (nd : H dx = none) (k : ∀ c o, (upd (upd H dx (.own x)) x (.ins C dx [])) c = some o → c ≠ x → H1 c = some o) : Same H H1 := Same.made nx nd k
section
variable {P : Program} {w : World} {K : PySem.W.Frag} {mg : Str → Option Value} {base : Heap} {φ : Str × Option Str → FuncData}
def spRdr (K : PySem.W.Frag) : Sp := fun vs H Q _ => ∃ (p dx l0 : Addr) (a : V) (zs : List Str) (i oc : Nat), vs = [.ref p, a, .ref l0, .int (i : Nat), .int (oc : Nat)] ∧ H p = some (.ins (He.ga K "BodyReader") dx []) ∧ H l0 = some (.lst (zs.map V.str)) ∧
  ∀ H' l, RdAt K H' p dx a l zs i oc 0 → But p H H' → Q .non H'
theorem ok_BodyReader___init__ (T : Tp w K mg φ) : FnOk P w K mg base CX0 1 (He.ma K (He.ga K "BodyReader") "__init__") (φ ("BodyReader", some "__init__")) P_BodyReader___init__ (spRdr K) := by
  refine okF T.F_BodyReader___init__ sc_BodyReader___init__ (fun vs H Q E h => ?_) (fun cdv A outer s H vs Q E hr h => ?_)
  · obtain ⟨p, dx, l0, a, zs, i, oc, rfl, _⟩ := h
    rfl
  obtain ⟨p, dx, l0, a, zs, i, oc, rfl, hp, hl0, k⟩ := h
  refine ⟨_, (pss_cons (ps_fld (pv 0) (pv 1) rfl)
    (pss_cons (ps_fld (pv 0) (pe_callTy call_list_of (by rfl) T.z_list (by decide +kernel) (pa_cons (pv 2) pa_nil)) rfl)
    (pss_cons (ps_fld (pv 0) (pv 3) rfl)
    (pss_cons (ps_fld (pv 0) (pv 4) rfl)
    (pss_one (ps_fld (pv 0) pe_int rfl)))))), ?_⟩
  have n0 : l0 ≠ p := ne_of hl0 hp (by intro q; cases q)
  refine ⟨_, rfl, _, rfl, p, _, dx, _, rfl, hp, T.c_BodyReader, T.n_BodyReader_path, by decide, ?_⟩
  refine ⟨_, rfl, l0, _, rfl, .inl (SqL.of (by rw [upd_ne n0]; exact hl0)), fun l hl => ?_⟩
  have npl : p ≠ l := fun e => by rw [← e, upd_same] at hl; cases hl
  have hl' : H l = none := by rw [upd_ne npl.symm] at hl; exact hl
  refine ⟨_, rfl, p, _, dx, _, rfl, by rw [upd_ne npl, upd_same], T.c_BodyReader, T.n_BodyReader_lines, by show 1 < 1000; decide, ?_⟩
  refine ⟨_, rfl, _, rfl, p, _, dx, _, rfl, upd_same, T.c_BodyReader, T.n_BodyReader_at, by show 2 < 1000; decide, ?_⟩
  refine ⟨_, rfl, _, rfl, p, _, dx, _, rfl, upd_same, T.c_BodyReader, T.n_BodyReader_output_count, by show 3 < 1000; decide, ?_⟩
  refine ⟨_, rfl, p, _, dx, _, rfl, upd_same, T.c_BodyReader, T.n_BodyReader_statement_count, by show 4 < 1000; decide, ?_⟩
  refine k _ l ⟨upd_same, ?_⟩ fun c o hc hcp => ?_
  · rw [upd_ne npl.symm, upd_ne npl.symm, upd_ne npl.symm, upd_ne npl.symm, upd_same]
  · rw [upd_ne hcp, upd_ne hcp, upd_ne hcp, upd_ne hcp, upd_ne (ne_of_none hc hl'), upd_ne hcp]
    exact hc
def spNextL (K : PySem.W.Frag) : Sp := fun vs H Q _ => ∃ (p dx l : Addr) (a : V) (zs : List Str) (tls : List Toks) (i oc sc : Nat) (sk : List Toks) (ts : Toks) (rest : List Toks), vs = [.ref p] ∧ RdAt K H p dx a l zs i oc sc ∧ Lns zs tls ∧
  tls.drop i = sk ++ ts :: rest ∧ (∀ x ∈ sk, x = []) ∧ ts ≠ [] ∧ ∀ H' q, But p H H' → RdAt K H' p dx a l zs (i + sk.length + 1) oc sc → LnAt K H' q ts → q ≠ p → Q (.ref q) H'
theorem ok_BodyReader_next_line (T : Tp w K mg φ) : FnOk P w K mg base CX0 5 (He.ma K (He.ga K "BodyReader") "next_line") (φ ("BodyReader", some "next_line")) P_BodyReader_next_line (spNextL K) := by
  have G_Line___init__ := ok_Line___init__ (P := P) (base := base) T
  refine okF T.F_BodyReader_next_line sc_BodyReader_next_line (fun vs H Q E h => ?_) (fun cdv A outer s H vs Q E hr h => ?_)
  · obtain ⟨p, dx, l, a, zs, tls, i, oc, sc, sk, ts, rest, rfl, _⟩ := h
    rfl
  obtain ⟨p, dx, l, a, zs, tls, i0, oc, sc, sk0, ts, rest, rfl, hR0, hz, hd0, hsk0, hts, k⟩ := h
  have nd := sc_BodyReader_next_line.nd
  refine ⟨_, (pss_cons (ps_while PassesOwn.never (pt_cmpR op_lt (pe_fld (pv 0) rfl) (pe_callB call_len_seq (by rfl) T.z_len (by decide +kernel) (pa_cons (pe_fld (pv 0) rfl) pa_nil)) (nomark _)) 
      (pss_cons (ps_set (i := 1) nd rfl (Or.inl rfl) (pe_make T.mk_Line G_Line___init__ (hr.mono (by omega)) rfl T.g_Line T.b_Line___init__ .nil pass0 (pa_cons (pe_fld (pv 0) rfl) (pa_cons (pe_op op_add (pe_fld (pv 0) rfl) pe_int) (pa_cons (pe_ix ix_list (pe_fld (pv 0) rfl) (pe_fld (pv 0) rfl) (fun _ _ => rfl)) pa_nil)))))
      (pss_cons (ps_fldaug (pv 0) pe_int in_add)
      (pss_one (ps_if (pt_cmpR op_gt (pe_callB call_len_seq (by rfl) T.z_len (by decide +kernel) (pa_cons (pe_fld (pv 1) rfl) pa_nil)) pe_int (nomark _)) 
        (pss_one (ps_ret (pv 1))) pss_nil)))))
    (pss_one ps_never)), ?_⟩
  refine ⟨fun m σ H' => ∃ i sk v1, tls.drop i = sk ++ ts :: rest ∧ i + sk.length = i0 + sk0.length ∧ (∀ x ∈ sk, x = []) ∧ m = sk.length ∧ σ = [some (.ref p), v1] ∧ But p H H' ∧ RdAt K H' p dx a l zs i oc sc,
    ⟨_, i0, sk0, none, hd0, rfl, hsk0, rfl, rfl, fun _ _ h _ => h, hR0⟩, ?_⟩
  rintro m σ H' ⟨i, sk, v1, hd, hi, hsk, rfl, rfl, hB, hR⟩
  obtain ⟨tk, rs, hdr⟩ : ∃ tk rs, tls.drop i = tk :: rs := by
    cases sk with
    | nil => exact ⟨_, _, hd⟩
    | cons x r => exact ⟨_, _, hd⟩
  have hg : tls[i]? = some tk := drop_get hdr
  have hil : i < zs.length := by rw [hz.1]; exact lt_of_get hg
  obtain ⟨z, hzi⟩ : ∃ z, zs[i]? = some z := ⟨zs[i], List.getElem?_eq_getElem hil⟩
  obtain ⟨hLL, hz1000⟩ := hz.2 i z tk hzi hg
  have hzv : (zs.map V.str)[i]? = some (.str z) := by rw [List.getElem?_map, hzi]; rfl
  have ob := hR.ob
  refine ⟨_, rfl, p, _, dx, _, _, rfl, ob, T.c_BodyReader, T.n_BodyReader_at, rfl, _, rfl, p, _, dx, _, _, rfl, ob, T.c_BodyReader, T.n_BodyReader_lines, rfl, l, _, rfl, .inl (SqL.of hR.ls), _, _, rfl, rfl, _, rfl, itT (decide_eq_true (by rw [List.length_map]; omega)) ?_⟩
  refine ⟨_, fun _ _ z => z, ?_⟩
  refine ⟨_, rfl, p, _, dx, _, _, rfl, ob, T.c_BodyReader, T.n_BodyReader_path, rfl, _, rfl, p, _, dx, _, _, rfl, ob, T.c_BodyReader, T.n_BodyReader_at, rfl, _, _, rfl, rfl,
    _, rfl, p, _, dx, _, _, rfl, ob, T.c_BodyReader, T.n_BodyReader_lines, rfl, _, rfl, p, _, dx, _, _, rfl, ob, T.c_BodyReader, T.n_BodyReader_at, rfl, l, _, _, _, rfl, rfl, SqL.of hR.ls, atI_nat hzv, ?_⟩
  intro q dq nq ndq nedq
  refine ⟨q, dq, _, _, z, tk, rfl, upd_same, hLL, hz1000, fun H1 hL1 hk1 => ⟨rfl, ?_⟩⟩
  have s1 : Same H' H1 := made_keep nq ndq hk1
  have hR1 := hR.same s1
  have nqp : q ≠ p := (ne_of_none ob nq).symm
  refine ⟨_, rfl, p, _, dx, _, _, rfl, hR1.ob, T.c_BodyReader, T.n_BodyReader_at, rfl, _, _, rfl, rfl, dx, _, hR1.ob, by show 5 < 1000; decide, ?_⟩
  have hR2 : RdAt K (upd H1 p (.ins (He.ga K "BodyReader") dx (rdF a l (i + 1) oc sc))) p dx a l zs (i + 1) oc sc := ⟨upd_same, by rw [upd_ne hR1.ne]; exact hR1.ls⟩
  have hL2 : LnAt K (upd H1 p (.ins (He.ga K "BodyReader") dx (rdF a l (i + 1) oc sc))) q tk := But.ln' (But.upd _) hL1 hR1.ob nqp
  have hB2 : But p H (upd H1 p (.ins (He.ga K "BodyReader") dx (rdF a l (i + 1) oc sc))) := hB.trans ((But.same s1).trans (But.upd _))
  obtain ⟨dx2, x2, y2, l2, ec2, us2, e1, e2, e3⟩ := id hL2
  refine ⟨_, rfl, q, _, dx2, _, _, rfl, e1, T.c_Line, T.n_Line_tokens, rfl, l2, _, rfl, .inl (SqL.of e2), _, _, rfl, rfl, _, rfl, ?_⟩
  cases sk with
  | nil =>
    have e : tk = ts := by
      have : tk :: rs = ts :: rest := hdr.symm.trans hd
      injection this
    subst e
    refine itT (decide_eq_true ?_) ⟨_, rfl, ?_⟩
    · have h4 := e3.1
      cases tk with
      | nil => exact absurd rfl hts
      | cons _ _ => simp at h4; omega
    · have e5 : i + 1 = i0 + sk0.length + 1 := by simp at hi; omega
      rw [e5] at hR2
      rw [e5] at hB2 hL2
      refine k _ q ?_ ?_ ?_ nqp
      · exact (show But p H (upd H1 p (.ins (He.ga K "BodyReader") dx (rdF a l (i + 1) oc sc))) by rw [e5]; exact hB2)
      · exact (show RdAt K (upd H1 p (.ins (He.ga K "BodyReader") dx (rdF a l (i + 1) oc sc))) p dx a l zs (i0 + sk0.length + 1) oc sc by rw [e5]; exact hR2)
      · exact (show LnAt K (upd H1 p (.ins (He.ga K "BodyReader") dx (rdF a l (i + 1) oc sc))) q tk by rw [e5]; exact hL2)
  | cons x r =>
    have e : tk = [] := by
      have h5 : tk :: rs = x :: (r ++ ts :: rest) := hdr.symm.trans hd
      injection h5 with h5 _
      rw [h5]
      exact hsk x List.mem_cons_self
    subst e
    refine itF (decide_eq_false ?_) ?_
    · have h4 := e3.1
      simp at h4 ⊢
      exact h4
    · refine ⟨r.length, by simp, i + 1, r, some (.ref q), ?_, by simp at hi; omega, fun y hy => hsk y (List.mem_cons_of_mem _ hy), rfl, rfl, hB2, hR2⟩
      exact drop_step (a := [x]) hd
/-! ### put -/
theorem num_cases {k : Nat} (h1 : 1 ≤ k) (h3 : k ≤ 3) : PySem.intText? (numZ k) = some (k : Int) ∧ (numZ k).length ≤ 640 ∧ inV (.str (numZ k)) [.str "1", .str "2", .str "3"] = true := by
  have : k = 1 ∨ k = 2 ∨ k = 3 := by omega
  rcases this with rfl | rfl | rfl <;> decide +kernel
def spPut (K : PySem.W.Frag) : Sp := fun vs H Q _ => ∃ (p q nl dx l : Addr) (a : V) (zs : List Str) (i oc sc k : Nat) (kn : List Str) (e : PyData) (ts : Toks), vs = [.ref p, .ref q, .ref nl] ∧ RdAt K H p dx a l zs i oc sc ∧ LnAt K H q (tW "put" :: tW (numZ k) :: ts) ∧
  1 ≤ k ∧ k ≤ 3 ∧ k ≤ oc ∧ H nl = some (.lst (kn.map V.str)) ∧ ExD 2 kn e ts ∧ ∀ H' v, Same H H' → Dp K H' v (.tuple [dS "put", .int (k : Nat), e]) → Q v H'
theorem ok_BodyReader_read_put (T : Tp w K mg φ) : FnOk P w K mg base CX0 12 (He.ma K (He.ga K "BodyReader") "read_put") (φ ("BodyReader", some "read_put")) P_BodyReader_read_put (spPut K) := by
  have G_Line_need := ok_Line_need (P := P) (base := base) T
  have G_Line_word := ok_Line_word (P := P) (base := base) T
  have G_read_expression := ok_read_expression (P := P) (base := base) T
  refine okF T.F_BodyReader_read_put sc_BodyReader_read_put (fun vs H Q E h => ?_) (fun cdv A outer s H vs Q E hr h => ?_)
  · obtain ⟨p, q, nl, dx, l, a, zs, i, oc, sc, kk, kn, e, ts, rfl, _⟩ := h
    rfl
  obtain ⟨p, q, nl, dx, l, a, zs, i, oc, sc, kk, kn, e, ts, rfl, hR, hL, h1, h3, hoc, hnl, hE, k⟩ := h
  have nd := sc_BodyReader_read_put.nd
  refine ⟨_, (pss_cons (ps_expr (pe_meth (pv 1) T.c_Line T.m_Line_need G_Line_need (hr.mono (by omega)) T.b_Line_need .nil pass0 (pa_cons pe_int pa_nil)))
    (pss_cons (ps_if (PW.pt (pw_or (pt_cmpR op_notIn_seq (pe_meth (pv 1) T.c_Line T.m_Line_word G_Line_word (hr.mono (by omega)) T.b_Line_word .nil pass0 (pa_cons pe_int pa_nil)) (pe_tup (pa_cons pe_str (pa_cons pe_str (pa_cons pe_str pa_nil)))) (by rfl)) (pw_or1 (pt_cmpR op_gt (pe_callTy call_int_str (by rfl) T.z_int (by decide +kernel) (pa_cons (pe_meth (pv 1) T.c_Line T.m_Line_word G_Line_word (hr.mono (by omega)) T.b_Line_word .nil pass0 (pa_cons pe_int pa_nil)) pa_nil)) (pe_fld (pv 0) rfl) (nomark _))))) 
      (pss_one ps_never) pss_nil)
    (pss_cons (ps_set (i := 3) nd rfl (Or.inl rfl) (pe_callTy call_int_str (by rfl) T.z_int (by decide +kernel) (pa_cons (pe_meth (pv 1) T.c_Line T.m_Line_word G_Line_word (hr.mono (by omega)) T.b_Line_word .nil pass0 (pa_cons pe_int pa_nil)) pa_nil)))
    (pss_one (ps_ret (pe_tup (pa_cons pe_str (pa_cons (pv 3) (pa_cons (pe_call G_read_expression (hr.mono (by omega)) rfl T.g_read_expression T.k_read_expression T.b_read_expression .nil pass0 (pa_cons (pv 1) (pa_cons pe_int (pa_cons (pv 2) pa_nil)))) pa_nil))))))))), ?_⟩
  obtain ⟨dl, x1, y1, l1, ec1, us1, e1, e2, e3⟩ := id hL
  obtain ⟨n1, n2, n3⟩ := num_cases h1 h3
  have ob := hR.ob
  refine ⟨_, rfl, q, dl, _, rfl, e1, rfl, q, 1, _, rfl, hL, by simp, ?_⟩
  refine ⟨_, rfl, q, dl, _, rfl, e1, rfl, q, 1, _, tW (numZ kk), rfl, hL, rfl, ?_⟩
  rw [wd_W]
  refine ⟨by show 3 ≤ sizeLine; decide, fun t0 ht0 => ?_⟩
  have s0 := same_new ht0 (.tup [.str "1", .str "2", .str "3"])
  have hL0 := hL.same s0
  have e10 := s0 _ _ e1
  refine ⟨t0, _, rfl, .inr (SqT.of upd_same), rfl, rfl, _, rfl, itF (nb n3) ?_⟩
  refine ⟨_, rfl, q, dl, _, rfl, e10, rfl, q, 1, _, tW (numZ kk), rfl, hL0, rfl, ?_⟩
  rw [wd_W]
  refine ⟨_, _, rfl, n1, n2, _, rfl, p, _, dx, _, _, rfl, s0 _ _ ob, T.c_BodyReader, T.n_BodyReader_output_count, rfl, _, _, rfl, rfl, _, rfl, itF (decide_eq_false (by omega)) ?_⟩
  refine ⟨_, rfl, q, dl, _, rfl, e10, rfl, q, 1, _, tW (numZ kk), rfl, hL0, rfl, ?_⟩
  rw [wd_W]
  refine ⟨_, _, rfl, n1, n2, ?_⟩
  refine ⟨_, rfl, _, rfl, _, rfl, q, nl, _, [tW "put", tW (numZ kk)], ts, kn, e, rfl, rfl, hL0, s0 _ _ hnl, hE, fun H1 v s1 hv => ?_⟩
  refine ⟨by show 3 ≤ sizeLine; decide, fun t1 ht1 => ?_⟩
  have s2 := same_new ht1 (.tup [.str "put", .int (kk : Nat), v])
  exact k _ (.ref t1) (s0.trans (s1.trans s2)) (dp_tup upd_same (.cons (.str _) (.cons (.int _) (.cons (dp_same s2 _ _ hv) .nil))))
end
end Ky

/-! The body's reader: blocks and statements. -/
namespace Ky
open PySem PySem.Spec PyProof.Rows L2 TL
theorem But.mut {p b : Addr} {H H' : Hp} {o : HO} (h : But p H H') (hb : H b = none) : But p H (L2.upd H' b o) := fun c u e hc => by
  rw [upd_ne (ne_of_none e hb)]
  exact h c u e hc
/-- all but what stands at p and at q is as it was -/
def But2 (p q : Addr) (H H' : Hp) : Prop := ∀ c o, H c = some o → c ≠ p → c ≠ q → H' c = some o
theorem But2.fk {p q : Addr} {H H' : Hp} (b : But2 p q H H') (h : Nt (H p)) (h2 : Nt (H q)) : FK H H' := by
  refine ⟨fun c xs e => b c _ e (fun z => ?_) fun z => ?_, fun c o u e => b c _ e (fun z => ?_) fun z => ?_⟩
  · rw [← z, e] at h; exact h
  · rw [← z, e] at h2; exact h2
  · rw [← z, e] at h; exact h
  · rw [← z, e] at h2; exact h2
theorem nt_lst {H : Hp} {l : Addr} {xs : List V} (h : H l = some (.lst xs)) : Nt (H l) := by rw [h]; trivial
theorem stD_cases {outs n : Nat} {kn kn' : List Str} {d : PyData} {ls : List Toks} {c : Nat} (h : StD outs n kn d ls kn' c) : StB outs kn d ls kn' c ∨ ∃ m, n = m + 1 ∧ StC (BkD outs m) kn d ls kn' c := by
  cases n with
  | zero => exact .inl h
  | succ n =>
    rcases h with h | h
    · exact .inl h
    · exact .inr ⟨n, rfl, h⟩
theorem stD_kn {outs n : Nat} {kn kn' : List Str} {d : PyData} {ls : List Toks} {c : Nat} (h : StD outs n kn d ls kn' c) : kn'.length ≤ kn.length + c := by
  rcases stD_cases h with h | ⟨m, _, h⟩
  · rcases h with ⟨k, e, ts, _, _, _, _, _, _, rfl, rfl⟩ | ⟨_, _, rfl, rfl⟩ | ⟨x, e, ts, _, _, _, _, _, rfl, rfl⟩
    · omega
    · omega
    · split
      · omega
      · simp
  · rcases h with ⟨x, e, ts, body, bl, c1, _, _, _, _, _, _, rfl, h⟩ | ⟨e, ts, b1, l1, c1, b2, l2, c2, _, _, _, rfl, h, _⟩ <;> omega
section
variable {P : Program} {w : World} {K : PySem.W.Frag} {mg : Str → Option Value} {base : Heap} {φ : Str × Option Str → FuncData}
/-- what the readers of a block, of a statement lean on -/
structure RCx (K : PySem.W.Frag) (H : Hp) (p dx : Addr) (a : V) (l : Addr) (zs : List Str) (tls : List Toks) (i oc sc : Nat) (nl : Addr) (kn : List Str) : Prop where
  rd : RdAt K H p dx a l zs i oc sc
  ln : Lns zs tls
  nm : H nl = some (.lst (kn.map V.str))
theorem RCx.np {H : Hp} {p dx : Addr} {a : V} {l : Addr} {zs : List Str} {tls : List Toks} {i oc sc : Nat} {nl : Addr} {kn : List Str} (h : RCx K H p dx a l zs tls i oc sc nl kn) : nl ≠ p := ne_of h.nm h.rd.ob (by intro q; cases q)
theorem RCx.same {H H' : Hp} {p dx : Addr} {a : V} {l : Addr} {zs : List Str} {tls : List Toks} {i oc sc : Nat} {nl : Addr} {kn : List Str} (h : RCx K H p dx a l zs tls i oc sc nl kn) (e : Same H H') : RCx K H' p dx a l zs tls i oc sc nl kn := ⟨h.rd.same e, h.ln, e _ _ h.nm⟩
def spBlock (K : PySem.W.Frag) (outs n : Nat) : Sp := fun vs H Q _ => ∃ (p kl dx l : Addr) (a : V) (d : Int) (me : Bool) (zs : List Str) (tls : List Toks) (i sc : Nat) (kn : List Str) (ds : List PyData) (bl : List Toks) (c : Nat) (sk : List Toks) (x : Str) (rest : List Toks),
  vs = [.ref p, .ref kl, .int d, .bl me] ∧ 0 ≤ d ∧ d + (n : Nat) ≤ 3 ∧ RCx K H p dx a l zs tls i outs sc kl kn ∧ BkD outs n kn ds bl c ∧ tls.drop i = bl ++ (sk ++ [tW x] :: rest) ∧ (∀ y ∈ sk, y = []) ∧
  (x = ("end" : Str) ∨ (x = ("else" : Str) ∧ me = true)) ∧ sc + c ≤ 40 ∧ kn.length + c ≤ 100 ∧
  ∀ H' q vb, But p H H' → RdAt K H' p dx a l zs (i + bl.length + sk.length + 1) outs (sc + c) → Dp K H' vb (.tuple ds) → H' q = some (.tup [vb, .str x]) → Q (.ref q) H'
def spStmt (K : PySem.W.Frag) (outs n : Nat) : Sp := fun vs H Q _ => ∃ (p q nl dx l : Addr) (a : V) (d : Int) (zs : List Str) (tls : List Toks) (i sc : Nat) (kn kn' : List Str) (dd : PyData) (x : Str) (r : Toks) (ls : List Toks) (c : Nat) (rest : List Toks),
  vs = [.ref p, .ref q, .str x, .ref nl, .int d] ∧ 0 ≤ d ∧ d + (n : Nat) ≤ 3 ∧ RCx K H p dx a l zs tls i outs sc nl kn ∧ LnAt K H q (tW x :: r) ∧ q ≠ p ∧ l ≠ nl ∧ StD outs n kn dd ((tW x :: r) :: ls) kn' c ∧ tls.drop i = ls ++ rest ∧ sc + c ≤ 40 ∧ kn.length + c ≤ 100 ∧
  ∀ H' v, But2 p nl H H' → RdAt K H' p dx a l zs (i + ls.length) outs (sc + c) → H' nl = some (.lst (kn'.map V.str)) → Dp K H' v dd → Q v H'
theorem ok_BodyReader_read_block (T : Tp w K mg φ) (outs n : Nat) (G_BodyReader_read_statement : FnOk P w K mg base CX0 (3 * n + 13) (He.ma K (He.ga K "BodyReader") "read_statement") (φ ("BodyReader", some "read_statement")) P_BodyReader_read_statement (spStmt K outs n)) :
    FnOk P w K mg base CX0 (3 * n + 14) (He.ma K (He.ga K "BodyReader") "read_block") (φ ("BodyReader", some "read_block")) P_BodyReader_read_block (spBlock K outs n) := by
  have G_BodyReader_next_line := ok_BodyReader_next_line (P := P) (base := base) T
  have G_Line_word := ok_Line_word (P := P) (base := base) T
  have G_Line_finish := ok_Line_finish (P := P) (base := base) T
  refine okF T.F_BodyReader_read_block sc_BodyReader_read_block (fun vs H Q E h => ?_) (fun cdv A outer s H vs Q E hr h => ?_)
  · obtain ⟨p, kl, dx, l, a, d, me, zs, tls, i, sc, kn, ds, bl, c, sk, x, rest, rfl, _⟩ := h
    rfl
  obtain ⟨p, kl, dx, l, a, d, me, zs, tls, i, sc, kn, ds, bl, c, sk, x, rest, rfl, hd0, hdn, hX, hBk, hdr, hsk, hx, hsc, hkc, k⟩ := h
  have nd := sc_BodyReader_read_block.nd
  refine ⟨_, (pss_cons (ps_set (i := 4) nd rfl (Or.inl rfl) (pe_callTy call_list_of (by rfl) T.z_list (by decide +kernel) (pa_cons (pv 1) pa_nil)))
    (pss_cons (ps_set (i := 5) nd rfl (Or.inl rfl) (pe_lst pa_nil))
    (pss_one (ps_while PassesOwn.never (pt_val pe_bl) 
      (pss_cons (ps_set (i := 6) nd rfl (Or.inl rfl) (pe_meth0 (pv 0) T.c_BodyReader T.m_BodyReader_next_line G_BodyReader_next_line (hr.mono (by omega)) T.b_BodyReader_next_line .nil pass0))
      (pss_cons (ps_set (i := 7) nd rfl (Or.inl rfl) (pe_meth (pv 6) T.c_Line T.m_Line_word G_Line_word (hr.mono (by omega)) T.b_Line_word .nil pass0 (pa_cons pe_int pa_nil)))
      (pss_cons (ps_if (PW.pt (pw_or (pt_cmpR op_eq (pv 7) pe_str (nomark _)) (pw_or1 (PW.pt (pw_and (pt_cmpR op_eq (pv 7) pe_str (nomark _)) (pw_and1 (pt_val (pv 3)))))))) 
        (pss_cons (ps_expr (pe_meth (pv 6) T.c_Line T.m_Line_finish G_Line_finish (hr.mono (by omega)) T.b_Line_finish .nil pass0 (pa_cons pe_int pa_nil)))
        (pss_one (ps_ret (pe_tup (pa_cons (pe_callTy call_tuple_of (by rfl) T.z_tuple (by decide +kernel) (pa_cons (pv 5) pa_nil)) (pa_cons (pv 7) pa_nil)))))) pss_nil)
      (pss_one (ps_expr (pe_bm PySem.F.plainAttrs_list PySem.F.slot_list_append PySem.F.type_list_append mt_append (pv 5) (pa_cons (pe_meth (pv 0) T.c_BodyReader T.m_BodyReader_read_statement G_BodyReader_read_statement (hr.mono (by omega)) T.b_BodyReader_read_statement .nil pass0 (pa_cons (pv 6) (pa_cons (pv 7) (pa_cons (pv 4) (pa_cons (pv 2) pa_nil))))) pa_nil))))))))))), ?_⟩
  refine ⟨_, rfl, kl, _, rfl, .inl (SqL.of hX.nm), fun nl hnl => ?_⟩
  refine ⟨Nat.zero_le _, fun b hb => ?_⟩
  have s1 := same_new hnl (.lst (kn.map V.str))
  have s2 := same_new hb (.lst [])
  have nlb : nl ≠ b := fun e => by rw [← e, upd_same] at hb; cases hb
  have hb0 : H b = none := s1.free hb
  refine ⟨fun m σ H' => ∃ ds1 ds2 bl2 kn2 c2 i2 sc2 vs1 x6 x7, ds = ds1 ++ ds2 ∧ m = ds2.length ∧ BkD outs n kn2 ds2 bl2 c2 ∧ tls.drop i2 = bl2 ++ (sk ++ [tW x] :: rest) ∧ i2 + bl2.length = i + bl.length ∧ sc2 + c2 = sc + c ∧ kn2.length + c2 ≤ 100 ∧
    σ = [some (.ref p), some (.ref kl), some (.int d), some (.bl me), some (.ref nl), some (.ref b), x6, x7] ∧ But p H H' ∧ RCx K H' p dx a l zs tls i2 outs sc2 nl kn2 ∧ H' b = some (.lst vs1) ∧ DpAll K H' vs1 ds1 ∧ tupd.all ds1 = true ∧ ds1.length ≤ 100,
    ⟨_, [], ds, bl, kn, c, i, sc, [], none, none, rfl, rfl, hBk, hdr, rfl, rfl, hkc, rfl, But.same (s1.trans s2), ⟨hX.rd.same (s1.trans s2), hX.ln, by rw [upd_ne nlb, upd_same]⟩, upd_same, .nil, rfl, Nat.zero_le _⟩, ?_⟩
  rintro m σ H' ⟨ds1, ds2, bl2, kn2, c2, i2, sc2, vs1, x6, x7, rfl, rfl, hB2, hd2, hi2, hs2, hk2, rfl, hBt, hX2, hb1, hda, htd, hl1⟩
  have hdl : (ds1 ++ ds2).length ≤ c := blk_len (fun h => stD_pos h) hBk
  refine ⟨_, rfl, itT rfl ⟨_, fun _ _ z => z, ?_⟩⟩
  have nbp : b ≠ p := ne_of hb1 hX2.rd.ob (by intro q; cases q)
  cases hB2 with
  | nil =>
    refine ⟨_, rfl, p, dx, _, rfl, hX2.rd.ob, rfl, p, dx, l, a, zs, tls, i2, outs, sc2, sk, [tW x], rest, rfl, hX2.rd, hX2.ln, hd2, hsk, by simp, fun H1 q hB1 hR1 hL1 nqp => ?_⟩
    obtain ⟨dl, y1, y2, ly, ecy, usy, e1, e2, e3⟩ := id hL1
    refine ⟨_, rfl, q, dl, _, rfl, e1, rfl, q, 0, _, tW x, rfl, hL1, rfl, ?_⟩
    rw [wd_W]
    have hb2 : H1 b = some (.lst vs1) := hB1 _ _ hb1 nbp
    have fin : L2.tSeq (tDrop (tMeth (He.ga K "Line") "finish" (spFinish K) [] E0 (tVar 6) (tCons (tC (.int 1)) tNil))) (tRet (tTup (tCons (tCB (fun xs H Q => ∃ p ys, xs = [.ref p] ∧ ((SqL K H p ys ∧ ∀ l, H l = none → Q (.ref l) (upd H l (.tup ys))) ∨ (SqT K H p ys ∧ Q (.ref p) H))) (tCons (tVar 5) tNil)) (tCons (tVar 7) tNil))))
        { nx := fun _ _ => True, rt := Q } [some (.ref p), some (.ref kl), some (.int d), some (.bl me), some (.ref nl), some (.ref b), some (.ref q), some (.str x)] H1 := by
      refine ⟨_, rfl, q, dl, _, rfl, e1, rfl, q, 1, _, rfl, hL1, by simp, ?_⟩
      refine ⟨_, rfl, b, _, rfl, .inl ⟨SqL.of hb2, fun t0 ht0 => ?_⟩⟩
      refine ⟨_, rfl, by show 2 ≤ sizeLine; decide, fun t1 ht1 => ?_⟩
      have t2 := same_new ht0 (.tup vs1)
      have t3 := same_new ht1 (.tup [.ref t0, .str x])
      rw [List.append_nil] at k
      have hR3 : RdAt K (upd (upd H1 t0 (.tup vs1)) t1 (.tup [.ref t0, .str x])) p dx a l zs (i + bl.length + sk.length + 1) outs (sc + c) := by
        have q1 : i2 + sk.length + 1 = i + bl.length + sk.length + 1 := by simp at hi2; omega
        have q2 : sc2 = sc + c := by omega
        rw [q1, q2] at hR1
        exact hR1.same (t2.trans t3)
      refine k _ t1 (.ref t0) (hBt.trans (hB1.trans (But.same (t2.trans t3)))) hR3 ?_ upd_same
      exact dp_same t3 _ _ (dp_tup upd_same (dpa_same t2 _ _ ((hB1.fk hX2.rd.nt).dpa htd hda)))
    rcases hx with rfl | ⟨rfl, rfl⟩
    · exact ⟨_, rfl, rfl, _, rfl, itT (by decide +kernel) fin⟩
    · exact ⟨_, rfl, rfl, _, rfl, itF (by decide +kernel) ⟨_, rfl, rfl, _, rfl, itT (by decide +kernel) ⟨_, rfl, _, rfl, fin⟩⟩⟩
  | @cons _ kn3 d2 ds3 ls lss c3 c4 hS hB3 =>
    obtain ⟨y, r, ls', hy, rfl⟩ := stD_hd hS
    have hd3 : tls.drop i2 = [] ++ (tW y :: r) :: (ls' ++ (lss ++ (sk ++ [tW x] :: rest))) := by rw [hd2]; simp
    refine ⟨_, rfl, p, dx, _, rfl, hX2.rd.ob, rfl, p, dx, l, a, zs, tls, i2, outs, sc2, [], tW y :: r, _, rfl, hX2.rd, hX2.ln, hd3, by simp, by simp, fun H1 q hB1 hR1 hL1 nqp => ?_⟩
    obtain ⟨dl, y1, y2, ly, ecy, usy, e1, e2, e3⟩ := id hL1
    refine ⟨_, rfl, q, dl, _, rfl, e1, rfl, q, 0, _, tW y, rfl, hL1, rfl, ?_⟩
    rw [wd_W]
    have ney : y ≠ ("end" : Str) ∧ y ≠ ("else" : Str) := by
      have key : ∀ y ∈ stW, y ≠ ("end" : Str) ∧ y ≠ ("else" : Str) := by decide +kernel
      exact key y hy
    have hb2 : H1 b = some (.lst vs1) := hB1 _ _ hb1 nbp
    have hnl1 : H1 nl = some (.lst (kn2.map V.str)) := hB1 _ _ hX2.nm hX2.np
    have hX3 : RCx K H1 p dx a l zs tls (i2 + 1) outs sc2 nl kn2 := ⟨hR1, hX2.ln, hnl1⟩
    have hd4 : tls.drop (i2 + 1) = ls' ++ (lss ++ (sk ++ [tW x] :: rest)) := drop_step (a := [tW y :: r]) hd3
    refine ⟨_, rfl, rfl, _, rfl, itF (decide_eq_false fun e => ney.1 (V.str.inj e)) ⟨_, rfl, rfl, _, rfl, itF (decide_eq_false fun e => ney.2 (V.str.inj e)) ?_⟩⟩
    refine ⟨_, rfl, .inl ⟨rfl, _, SqL.of hb2⟩, _, rfl, p, dx, _, rfl, hX3.rd.ob, rfl, _, rfl, _, rfl, _, rfl, _, rfl, p, q, nl, dx, l, a, d, zs, tls, i2 + 1, sc2, kn2, kn3, d2, y, r, ls', c3, _, rfl, hd0, hdn, hX3, hL1, nqp, ne_of_none hX.rd.ls hnl, hS, hd4, by omega, by omega, fun H3 v hB4 hR4 hn4 hv => ?_⟩
    have nbn : b ≠ nl := by
      intro e
      have h5 := hX2.nm
      exact absurd e nlb.symm
    have hb3 : H3 b = some (.lst vs1) := hB4 _ _ hb2 nbp nbn
    have hvl : vs1.length = ds1.length := dpa_len _ _ hda
    refine ⟨b, _, _, rfl, rfl, hb3, szl (by omega), ?_⟩
    have f1 := (hB1.fk hX2.rd.nt).trans (hB4.fk hR1.nt (nt_lst hnl1))
    have f2 := FK.lst (.lst (vs1 ++ [v])) hb3
    have gd := (stD_good hS).tup
    have hnl0 : H nl = none := hnl
    refine ⟨ds3.length, by simp, ds1 ++ [d2], ds3, lss, kn3, c4, i2 + 1 + ls'.length, sc2 + c3, vs1 ++ [v], some (.ref q), some (.str y), by simp, rfl, hB3, drop_step hd4, by simp at hi2; omega, by omega, ?_, rfl, ?_, ⟨⟨?_, ?_⟩, hX2.ln, ?_⟩, upd_same, ?_, ?_, ?_⟩
    · have := stD_kn hS
      omega
    · refine But.mut (fun c o hc hcp => ?_) hb0
      have h6 : H1 c = some o := hB1 _ _ (hBt _ _ hc hcp) hcp
      exact hB4 _ _ h6 hcp (ne_of_none hc hnl0)
    · rw [upd_ne nbp.symm]
      exact hR4.ob
    · rw [upd_ne (ne_of_none hX.rd.ls hb0)]
      exact hR4.ls
    · rw [upd_ne nlb]
      exact hn4
    · exact dpa_snoc (f2.dp gd hv) _ _ (f2.dpa htd (f1.dpa htd hda))
    · rw [all_app, htd]
      show (true && (tupd d2 && true)) = true
      rw [gd] <;> rfl
    · simp at hdl ⊢
      omega
end
end Ky

/-! The body's reader: if, each, a statement, the recursion. -/
namespace Ky
open PySem PySem.Spec PyProof.Rows L2 TL
section
variable {P : Program} {w : World} {K : PySem.W.Frag} {mg : Str → Option Value} {base : Heap} {φ : Str × Option Str → FuncData}
theorem st_tab (T : Tp w K mg φ) (H : Hp) : SqT K H (He.ga K "STATEMENTS") (stW.map V.str) := by
  have m := T.more
  unfold ex at m
  obtain ⟨_, m⟩ := Bool.and_eq_true_iff.mp m
  obtain ⟨m, _⟩ := Bool.and_eq_true_iff.mp m
  exact He.tupB_ok m H
def spIf (K : PySem.W.Frag) (outs n : Nat) : Sp := fun vs H Q _ => ∃ (m : Nat) (p q nl dx l : Addr) (a : V) (d : Int) (zs : List Str) (tls : List Toks) (i sc : Nat) (kn : List Str) (e : PyData) (ts : Toks) (b1 : List PyData) (l1 : List Toks) (c1 : Nat) (b2 : List PyData) (l2 : List Toks) (c2 : Nat) (ls rest : List Toks),
  n = m + 1 ∧ vs = [.ref p, .ref q, .ref nl, .int d] ∧ 0 ≤ d ∧ d + (n : Nat) ≤ 3 ∧ RCx K H p dx a l zs tls i outs sc nl kn ∧ LnAt K H q (tW "if" :: ts) ∧ ExD 2 kn e ts ∧ BkD outs m kn b1 l1 c1 ∧
  ((b2 = [] ∧ c2 = 0 ∧ ls = l1 ++ [[tW "end"]]) ∨ (BkD outs m kn b2 l2 c2 ∧ ls = l1 ++ ([] :: [tW "else"] :: (l2 ++ [[tW "end"]])))) ∧ tls.drop i = ls ++ rest ∧ sc + (c1 + c2) ≤ 40 ∧ kn.length + (c1 + c2) ≤ 100 ∧
  ∀ H' v, But p H H' → RdAt K H' p dx a l zs (i + ls.length) outs (sc + (c1 + c2)) → Dp K H' v (.tuple [dS "if", e, .tuple b1, .tuple b2]) → Q v H'
theorem blk_tup {outs n : Nat} {kn : List Str} {ds : List PyData} {ls : List Toks} {c : Nat} (h : BkD outs n kn ds ls c) : tupd.all ds = true := (gda_lay (blk_good (fun h => stD_good h) h)).2.1
theorem ok_BodyReader_read_if (T : Tp w K mg φ) (outs m : Nat) (G_BodyReader_read_block : FnOk P w K mg base CX0 (3 * m + 14) (He.ma K (He.ga K "BodyReader") "read_block") (φ ("BodyReader", some "read_block")) P_BodyReader_read_block (spBlock K outs m)) :
    FnOk P w K mg base CX0 (3 * m + 15) (He.ma K (He.ga K "BodyReader") "read_if") (φ ("BodyReader", some "read_if")) P_BodyReader_read_if (spIf K outs (m + 1)) := by
  have G_read_expression := ok_read_expression (P := P) (base := base) T
  refine okF T.F_BodyReader_read_if sc_BodyReader_read_if (fun vs H Q E h => ?_) (fun cdv A outer s H vs Q E hr h => ?_)
  · obtain ⟨m, p, q, nl, dx, l, a, d, zs, tls, i, sc, kn, e, ts, b1, l1, c1, b2, l2, c2, ls, rest, _, rfl, _⟩ := h
    rfl
  obtain ⟨m', p, q, nl, dx, l, a, d, zs, tls, i, sc, kn, e, ts, b1, l1, c1, b2, l2, c2, ls, rest, hm, rfl, hd0, hdn, hX, hL, hE, hB1, hB2, hdr, hsc, hkc, k⟩ := h
  obtain rfl : m = m' := by omega
  have nd := sc_BodyReader_read_if.nd
  refine ⟨_, (pss_cons (ps_set (i := 4) nd rfl (Or.inl rfl) (pe_call G_read_expression (hr.mono (by omega)) rfl T.g_read_expression T.k_read_expression T.b_read_expression .nil pass0 (pa_cons (pv 1) (pa_cons pe_int (pa_cons (pv 2) pa_nil)))))
    (pss_cons (ps_asg (pe_meth (pv 0) T.c_BodyReader T.m_BodyReader_read_block G_BodyReader_read_block (hr.mono (by omega)) T.b_BodyReader_read_block .nil pass0 (pa_cons (pv 2) (pa_cons (pe_op op_add (pv 3) pe_int) (pa_cons pe_bl pa_nil)))) (pg_tup rfl (pgs_cons (pg_name (i := 5) nd rfl (Or.inl rfl)) (pgs_cons (pg_name (i := 6) nd rfl (Or.inl rfl)) pgs_nil))))
    (pss_cons (ps_set (i := 7) nd rfl (Or.inl rfl) (pe_tup pa_nil))
    (pss_cons (ps_if (pt_cmpR op_eq (pv 6) pe_str (nomark _)) 
      (pss_one (ps_asg (pe_meth (pv 0) T.c_BodyReader T.m_BodyReader_read_block G_BodyReader_read_block (hr.mono (by omega)) T.b_BodyReader_read_block .nil pass0 (pa_cons (pv 2) (pa_cons (pe_op op_add (pv 3) pe_int) (pa_cons pe_bl pa_nil)))) (pg_tup rfl (pgs_cons (pg_name (i := 7) nd rfl (Or.inl rfl)) (pgs_cons (pg_name (i := 8) nd rfl (Or.inl rfl)) pgs_nil))))) pss_nil)
    (pss_one (ps_ret (pe_tup (pa_cons pe_str (pa_cons (pv 4) (pa_cons (pv 5) (pa_cons (pv 7) pa_nil))))))))))), ?_⟩
  refine ⟨_, rfl, _, rfl, q, nl, _, [tW "if"], ts, kn, e, rfl, rfl, hL, hX.nm, hE, fun H1 v s1 hv => ?_⟩
  have hX1 := hX.same s1
  have ge := (exD_good hE).tup
  have hd1 : d + 1 + (m : Nat) ≤ 3 := by omega
  rcases hB2 with ⟨rfl, rfl, rfl⟩ | ⟨hB2, rfl⟩
  · have hdr1 : tls.drop i = l1 ++ (([] : List Toks) ++ [tW "end"] :: rest) := by rw [hdr]; simp
    refine ⟨_, rfl, p, dx, _, rfl, hX1.rd.ob, rfl, _, rfl, _, rfl, _, _, rfl, rfl, p, nl, dx, l, a, d + 1, true, zs, tls, i, sc, kn, b1, l1, c1, [], "end", rest, rfl, by omega, hd1, hX1, hB1, hdr1, by simp, .inl rfl, by omega, by omega, fun H2 q2 vb hBt hR2 hvb hq2 => ?_⟩
    refine ⟨q2, _, rfl, .inl (.inl hq2), rfl, _, _, rfl, _, _, rfl, rfl, ?_⟩
    refine ⟨by show 0 ≤ sizeLine; decide, fun t0 ht0 => ?_⟩
    refine ⟨_, rfl, rfl, _, rfl, itF (by decide +kernel) ?_⟩
    refine ⟨_, rfl, _, rfl, _, rfl, by show 4 ≤ sizeLine; decide, fun t1 ht1 => ?_⟩
    have s2 := same_new ht0 (.tup [])
    have s3 := same_new ht1 (.tup [.str "if", v, vb, .ref t0])
    refine k _ (.ref t1) ((But.same s1).trans (hBt.trans (But.same (s2.trans s3)))) ?_ (dp_tup upd_same (.cons (.str _) (.cons ?_ (.cons (dp_same (s2.trans s3) _ _ hvb) (.cons (dp_same s3 _ _ (dp_tup upd_same .nil)) .nil)))))
    · have q1 : i + l1.length + ([] : List Toks).length + 1 = i + (l1 ++ [[tW "end"]]).length := by simp; omega
      rw [q1] at hR2
      exact hR2.same (s2.trans s3)
    · exact dp_same (s2.trans s3) _ _ ((hBt.fk hX1.rd.nt).dp ge hv)
  · have hdr1 : tls.drop i = l1 ++ (([[]] : List Toks) ++ [tW "else"] :: (l2 ++ ([tW "end"] :: rest))) := by rw [hdr]; simp
    refine ⟨_, rfl, p, dx, _, rfl, hX1.rd.ob, rfl, _, rfl, _, rfl, _, _, rfl, rfl, p, nl, dx, l, a, d + 1, true, zs, tls, i, sc, kn, b1, l1, c1, [[]], "else", _, rfl, by omega, hd1, hX1, hB1, hdr1, by simp, .inr ⟨rfl, rfl⟩, by omega, by omega, fun H2 q2 vb hBt hR2 hvb hq2 => ?_⟩
    refine ⟨q2, _, rfl, .inl (.inl hq2), rfl, _, _, rfl, _, _, rfl, rfl, ?_⟩
    refine ⟨by show 0 ≤ sizeLine; decide, fun t0 ht0 => ?_⟩
    have s2 := same_new ht0 (.tup [])
    refine ⟨_, rfl, rfl, _, rfl, itT (by decide +kernel) ?_⟩
    have hdr2 : tls.drop (i + l1.length + [([] : Toks)].length + 1) = l2 ++ (([] : List Toks) ++ [tW "end"] :: rest) := by
      have h5 : tls.drop i = (l1 ++ ([[], [tW "else"]] : List Toks)) ++ (l2 ++ (([] : List Toks) ++ [tW "end"] :: rest)) := by rw [hdr1]; simp
      have h6 := drop_step h5
      have h7 : i + (l1 ++ ([[], [tW "else"]] : List Toks)).length = i + l1.length + [([] : Toks)].length + 1 := by simp; omega
      rwa [h7] at h6
    have hX2 : RCx K (upd H2 t0 (.tup [])) p dx a l zs tls (i + l1.length + [([] : Toks)].length + 1) outs (sc + c1) nl kn := ⟨hR2.same s2, hX.ln, s2 _ _ (hBt _ _ hX1.nm hX1.np)⟩
    refine ⟨_, rfl, p, dx, _, rfl, hX2.rd.ob, rfl, _, rfl, _, rfl, _, _, rfl, rfl, p, nl, dx, l, a, d + 1, false, zs, tls, _, sc + c1, kn, b2, l2, c2, [], "end", rest, rfl, by omega, hd1, hX2, hB2, hdr2, by simp, .inl rfl, by omega, by omega, fun H3 q3 vc hBt3 hR3 hvc hq3 => ?_⟩
    refine ⟨q3, _, rfl, .inl (.inl hq3), rfl, _, _, rfl, _, _, rfl, rfl, ?_⟩
    refine ⟨_, rfl, _, rfl, _, rfl, by show 4 ≤ sizeLine; decide, fun t1 ht1 => ?_⟩
    have s3 := same_new ht1 (.tup [.str "if", v, vb, vc])
    have f3 := hBt3.fk hX2.rd.nt
    refine k _ (.ref t1) ((But.same s1).trans (hBt.trans ((But.same s2).trans (hBt3.trans (But.same s3))))) ?_ (dp_tup upd_same (.cons (.str _) (.cons ?_ (.cons ?_ (.cons (dp_same s3 _ _ hvc) .nil)))))
    · have q1 : i + l1.length + [([] : Toks)].length + 1 + l2.length + ([] : List Toks).length + 1 = i + (l1 ++ ([] :: [tW "else"] :: (l2 ++ [[tW "end"]]))).length := by simp; omega
      have q2 : sc + c1 + c2 = sc + (c1 + c2) := by omega
      rw [q1, q2] at hR3
      exact hR3.same s3
    · exact dp_same s3 _ _ (f3.dp ge (dp_same s2 _ _ ((hBt.fk hX1.rd.nt).dp ge hv)))
    · exact dp_same s3 _ _ (f3.dp (blk_tup hB1) (dp_same s2 _ _ hvb))
def spEach (K : PySem.W.Frag) (outs n : Nat) : Sp := fun vs H Q _ => ∃ (m : Nat) (p q nl dx l : Addr) (a : V) (d : Int) (zs : List Str) (tls : List Toks) (i sc : Nat) (kn : List Str) (x : Str) (e : PyData) (ts : Toks) (b1 : List PyData) (l1 : List Toks) (c1 : Nat) (rest : List Toks),
  n = m + 1 ∧ vs = [.ref p, .ref q, .ref nl, .int d] ∧ 0 ≤ d ∧ d + (n : Nat) ≤ 3 ∧ RCx K H p dx a l zs tls i outs sc nl kn ∧ LnAt K H q (tW "each" :: tW x :: tW "in" :: ts) ∧ idn (tl x) = true ∧ x ≠ ("stem" : Str) ∧ ExD 2 kn e ts ∧ BkD outs m (kn ++ [x]) b1 l1 c1 ∧
  tls.drop i = (l1 ++ [[tW "end"]]) ++ rest ∧ sc + c1 ≤ 40 ∧ kn.length + (c1 + 1) ≤ 100 ∧
  ∀ H' v, But p H H' → RdAt K H' p dx a l zs (i + (l1 ++ [[tW "end"]]).length) outs (sc + c1) → Dp K H' v (.tuple [dS "each", dS x, e, .tuple b1]) → Q v H'
theorem ok_BodyReader_read_each (T : Tp w K mg φ) (outs m : Nat) (G_BodyReader_read_block : FnOk P w K mg base CX0 (3 * m + 14) (He.ma K (He.ga K "BodyReader") "read_block") (φ ("BodyReader", some "read_block")) P_BodyReader_read_block (spBlock K outs m)) :
    FnOk P w K mg base CX0 (3 * m + 15) (He.ma K (He.ga K "BodyReader") "read_each") (φ ("BodyReader", some "read_each")) P_BodyReader_read_each (spEach K outs (m + 1)) := by
  have G_read_expression := ok_read_expression (P := P) (base := base) T
  have G_Line_need := ok_Line_need (P := P) (base := base) T
  have G_Line_word := ok_Line_word (P := P) (base := base) T
  have G_Line_identifier := ok_Line_identifier (P := P) (base := base) T
  obtain ⟨mv, hbk⟩ := bk_Line_identifier T
  refine okF T.F_BodyReader_read_each sc_BodyReader_read_each (fun vs H Q E h => ?_) (fun cdv A outer s H vs Q E hr h => ?_)
  · obtain ⟨m, p, q, nl, dx, l, a, d, zs, tls, i, sc, kn, x, e, ts, b1, l1, c1, rest, _, rfl, _⟩ := h
    rfl
  obtain ⟨m', p, q, nl, dx, l, a, d, zs, tls, i, sc, kn, x, e, ts, b1, l1, c1, rest, hm, rfl, hd0, hdn, hX, hL, hx, hxs, hE, hB1, hdr, hsc, hkc, k⟩ := h
  obtain rfl : m = m' := by omega
  have nd := sc_BodyReader_read_each.nd
  refine ⟨_, (pss_cons (ps_set (i := 4) nd rfl (Or.inl rfl) (pe_methN (pv 1) T.c_Line T.m_Line_identifier G_Line_identifier (hr.mono (by omega)) hbk pass0 (pa_cons pe_int pa_nil) (pk_cons pe_str pk_nil)))
    (pss_cons (ps_expr (pe_meth (pv 1) T.c_Line T.m_Line_need G_Line_need (hr.mono (by omega)) T.b_Line_need .nil pass0 (pa_cons pe_int pa_nil)))
    (pss_cons (ps_if (pt_cmpR op_ne (pe_meth (pv 1) T.c_Line T.m_Line_word G_Line_word (hr.mono (by omega)) T.b_Line_word .nil pass0 (pa_cons pe_int pa_nil)) pe_str (nomark _)) 
      (pss_one ps_never) pss_nil)
    (pss_cons (ps_set (i := 5) nd rfl (Or.inl rfl) (pe_call G_read_expression (hr.mono (by omega)) rfl T.g_read_expression T.k_read_expression T.b_read_expression .nil pass0 (pa_cons (pv 1) (pa_cons pe_int (pa_cons (pv 2) pa_nil)))))
    (pss_cons (ps_asg (pe_meth (pv 0) T.c_BodyReader T.m_BodyReader_read_block G_BodyReader_read_block (hr.mono (by omega)) T.b_BodyReader_read_block .nil pass0 (pa_cons (pe_op op_cat (pv 2) (pe_lst (pa_cons (pv 4) pa_nil))) (pa_cons (pe_op op_add (pv 3) pe_int) (pa_cons pe_bl pa_nil)))) (pg_tup rfl (pgs_cons (pg_name (i := 6) nd rfl (Or.inl rfl)) (pgs_cons (pg_name (i := 7) nd rfl (Or.inl rfl)) pgs_nil))))
    (pss_one (ps_ret (pe_tup (pa_cons pe_str (pa_cons (pv 4) (pa_cons (pv 5) (pa_cons (pv 6) pa_nil)))))))))))), ?_⟩
  obtain ⟨dl, y1, y2, ly, ecy, usy, e1, e2, e3⟩ := id hL
  refine ⟨_, rfl, q, dl, _, rfl, e1, rfl, rfl, rfl, q, 1, _, x, "stem", rfl, hL, rfl, hx, hxs, fun H1 s1 => ?_⟩
  have hL1 := hL.same s1
  have e11 := s1 _ _ e1
  refine ⟨_, rfl, q, dl, _, rfl, e11, rfl, q, 2, _, rfl, hL1, by simp, ?_⟩
  refine ⟨_, rfl, q, dl, _, rfl, e11, rfl, q, 2, _, tW "in", rfl, hL1, rfl, ?_⟩
  rw [wd_W]
  refine ⟨rfl, _, rfl, itF (by decide +kernel) ?_⟩
  refine ⟨_, rfl, _, rfl, q, nl, _, [tW "each", tW x, tW "in"], ts, kn, e, rfl, rfl, hL1, s1 _ _ hX.nm, hE, fun H2 v s2 hv => ?_⟩
  have hX2 := hX.same (s1.trans s2)
  have ge := (exD_good hE).tup
  refine ⟨_, rfl, p, dx, _, rfl, hX2.rd.ob, rfl, _, rfl, _, rfl, by show 1 ≤ sizeLine; decide, fun t0 ht0 => ?_⟩
  have s3 := same_new ht0 (.lst [.str x])
  refine ⟨nl, t0, _, _, rfl, rfl, s3 _ _ hX2.nm, upd_same, ?_, fun nk hnk => ?_⟩
  · rw [List.length_map]
    exact sz (by simp; omega)
  have s4 := same_new hnk (.lst (kn.map V.str ++ [.str x]))
  have hX4 : RCx K (upd (upd H2 t0 (.lst [.str x])) nk (.lst (kn.map V.str ++ [.str x]))) p dx a l zs tls i outs sc nk (kn ++ [x]) := ⟨hX2.rd.same (s3.trans s4), hX.ln, by rw [upd_same, List.map_append]; rfl⟩
  have hdr1 : tls.drop i = l1 ++ (([] : List Toks) ++ [tW "end"] :: rest) := by rw [hdr]; simp
  refine ⟨_, rfl, _, _, rfl, rfl, p, nk, dx, l, a, d + 1, false, zs, tls, i, sc, kn ++ [x], b1, l1, c1, [], "end", rest, rfl, by omega, by omega, hX4, hB1, hdr1, by simp, .inl rfl, by omega, by simp; omega, fun H5 q5 vb hBt hR5 hvb hq5 => ?_⟩
  refine ⟨q5, _, rfl, .inl (.inl hq5), rfl, _, _, rfl, _, _, rfl, rfl, ?_⟩
  refine ⟨_, rfl, _, rfl, _, rfl, by show 4 ≤ sizeLine; decide, fun t1 ht1 => ?_⟩
  have s5 := same_new ht1 (.tup [.str "each", .str x, v, vb])
  refine k _ (.ref t1) ((But.same (s1.trans (s2.trans (s3.trans s4)))).trans (hBt.trans (But.same s5))) ?_ (dp_tup upd_same (.cons (.str _) (.cons (.str _) (.cons ?_ (.cons (dp_same s5 _ _ hvb) .nil)))))
  · have q1 : i + l1.length + ([] : List Toks).length + 1 = i + (l1 ++ [[tW "end"]]).length := by simp; omega
    rw [q1] at hR5
    exact hR5.same s5
  · exact dp_same s5 _ _ ((hBt.fk hX4.rd.nt).dp ge (dp_same (s3.trans s4) _ _ hv))
end
end Ky

/-! The body's reader: a statement, the recursion. -/
namespace Ky
open PySem PySem.Spec PyProof.Rows L2 TL
section
variable {P : Program} {w : World} {K : PySem.W.Frag} {mg : Str → Option Value} {base : Heap} {φ : Str × Option Str → FuncData}
theorem But.two {p q : Addr} {H H' : Hp} (h : But p H H') : But2 p q H H' := fun c o e h1 _ => h c o e h1
theorem ok_BodyReader_read_statement (T : Tp w K mg φ) (outs n : Nat)
    (G_BodyReader_read_if : FnOk P w K mg base CX0 (3 * n + 12) (He.ma K (He.ga K "BodyReader") "read_if") (φ ("BodyReader", some "read_if")) P_BodyReader_read_if (spIf K outs n))
    (G_BodyReader_read_each : FnOk P w K mg base CX0 (3 * n + 12) (He.ma K (He.ga K "BodyReader") "read_each") (φ ("BodyReader", some "read_each")) P_BodyReader_read_each (spEach K outs n)) :
    FnOk P w K mg base CX0 (3 * n + 13) (He.ma K (He.ga K "BodyReader") "read_statement") (φ ("BodyReader", some "read_statement")) P_BodyReader_read_statement (spStmt K outs n) := by
  have G_read_expression := ok_read_expression (P := P) (base := base) T
  have G_Line_identifier := ok_Line_identifier (P := P) (base := base) T
  have G_Line_finish := ok_Line_finish (P := P) (base := base) T
  have G_BodyReader_read_put := ok_BodyReader_read_put (P := P) (base := base) T
  obtain ⟨mv, hbk⟩ := bk_Line_identifier T
  refine okF T.F_BodyReader_read_statement sc_BodyReader_read_statement (fun vs H Q E h => ?_) (fun cdv A outer s H vs Q E hr h => ?_)
  · obtain ⟨p, q, nl, dx, l, a, d, zs, tls, i, sc, kn, kn', dd, x, r, ls, c, rest, rfl, _⟩ := h
    rfl
  obtain ⟨p, q, nl, dx, l, a, d, zs, tls, i, sc, kn, kn', dd, x, r, ls, c, rest, rfl, hd0, hdn, hX, hL, nqp, hln, hS, hdr, hsc, hkc, k⟩ := h
  have nd := sc_BodyReader_read_statement.nd
  refine ⟨_, (pss_cons (ps_if (pt_cmpR op_notIn_seq (pv 2) (pe_gref T.g_STATEMENTS) (by rfl)) 
      (pss_one ps_never) pss_nil)
    (pss_cons (ps_fldaug (pv 0) pe_int in_add)
    (pss_cons (ps_if (pt_cmpR op_gt (pe_fld (pv 0) rfl) (pe_gint T.i_STATEMENT_LIMIT) (nomark _)) 
      (pss_one ps_never) pss_nil)
    (pss_cons (ps_if (PW.pt (pw_or (pt_cmpR op_eq (pv 2) pe_str (nomark _)) (pw_or1 (pt_cmpR op_eq (pv 2) pe_str (nomark _))))) 
      (pss_cons (ps_if (pt_cmpR op_ge (pv 4) (pe_gint T.i_BLOCK_LIMIT) (nomark _)) 
        (pss_one ps_never) pss_nil)
      (pss_cons (ps_if (pt_cmpR op_eq (pv 2) pe_str (nomark _)) 
        (pss_one (ps_ret (pe_meth (pv 0) T.c_BodyReader T.m_BodyReader_read_if G_BodyReader_read_if (hr.mono (by omega)) T.b_BodyReader_read_if .nil pass0 (pa_cons (pv 1) (pa_cons (pv 3) (pa_cons (pv 4) pa_nil)))))) pss_nil)
      (pss_one (ps_ret (pe_meth (pv 0) T.c_BodyReader T.m_BodyReader_read_each G_BodyReader_read_each (hr.mono (by omega)) T.b_BodyReader_read_each .nil pass0 (pa_cons (pv 1) (pa_cons (pv 3) (pa_cons (pv 4) pa_nil)))))))) pss_nil)
    (pss_cons (ps_if (pt_cmpR op_eq (pv 2) pe_str (nomark _)) 
      (pss_cons (ps_set (i := 5) nd rfl (Or.inl rfl) (pe_methN (pv 1) T.c_Line T.m_Line_identifier G_Line_identifier (hr.mono (by omega)) hbk pass0 (pa_cons pe_int pa_nil) (pk_cons pe_str pk_nil)))
      (pss_cons (ps_set (i := 6) nd rfl (Or.inl rfl) (pe_tup (pa_cons pe_str (pa_cons (pv 5) (pa_cons (pe_call G_read_expression (hr.mono (by omega)) rfl T.g_read_expression T.k_read_expression T.b_read_expression .nil pass0 (pa_cons (pv 1) (pa_cons pe_int (pa_cons (pv 3) pa_nil)))) pa_nil)))))
      (pss_cons (ps_if (pt_cmpR op_notIn_seq (pv 5) (pv 3) (by rfl)) 
        (pss_one (ps_expr (pe_bm PySem.F.plainAttrs_list PySem.F.slot_list_append PySem.F.type_list_append mt_append (pv 3) (pa_cons (pv 5) pa_nil)))) pss_nil)
      (pss_one (ps_ret (pv 6)))))) pss_nil)
    (pss_cons (ps_if (pt_cmpR op_eq (pv 2) pe_str (nomark _)) 
      (pss_one (ps_ret (pe_meth (pv 0) T.c_BodyReader T.m_BodyReader_read_put G_BodyReader_read_put (hr.mono (by omega)) T.b_BodyReader_read_put .nil pass0 (pa_cons (pv 1) (pa_cons (pv 3) pa_nil))))) pss_nil)
    (pss_cons (ps_expr (pe_meth (pv 1) T.c_Line T.m_Line_finish G_Line_finish (hr.mono (by omega)) T.b_Line_finish .nil pass0 (pa_cons pe_int pa_nil)))
    (pss_one (ps_ret (pe_tup (pa_cons pe_str pa_nil))))))))))), ?_⟩
  obtain ⟨x', r', rest', hxm, heq⟩ := stD_hd hS
  have hxx : x' = x := by
    injection heq with h1 _
    injection h1 with h1 _
    injection h1 with _ h1
    exact h1.symm
  subst hxx
  have hc1 := stD_pos hS
  have ob := hX.rd.ob
  refine ⟨_, rfl, _, _, rfl, .inr (st_tab T H), rfl, flat_strs stW, _, rfl, itF ?_ ?_⟩
  · show (!inV (.str x') (stW.map V.str)) = false
    rw [inV_str, decide_eq_true hxm] <;> rfl
  refine ⟨_, rfl, p, _, dx, _, _, rfl, ob, T.c_BodyReader, T.n_BodyReader_statement_count, rfl, _, _, rfl, rfl, dx, _, ob, by show 5 < 1000; decide, ?_⟩
  have b1 : But p H (upd H p (.ins (He.ga K "BodyReader") dx (rdF a l i outs (sc + 1)))) := But.upd _
  have hX1 : RCx K (upd H p (.ins (He.ga K "BodyReader") dx (rdF a l i outs (sc + 1)))) p dx a l zs tls i outs (sc + 1) nl kn := ⟨⟨upd_same, by rw [upd_ne hX.rd.ne]; exact hX.rd.ls⟩, hX.ln, by rw [upd_ne hX.np]; exact hX.nm⟩
  have hL1 := But.ln' b1 hL ob nqp
  have e0 : upd H p (.ins (He.ga K "BodyReader") dx (putF "statement_count" (.int ((sc : Nat) + 1)) (rdF a l i outs sc))) = upd H p (.ins (He.ga K "BodyReader") dx (rdF a l i outs (sc + 1))) := rfl
  rw [e0]
  generalize upd H p (.ins (He.ga K "BodyReader") dx (rdF a l i outs (sc + 1))) = H1 at b1 hX1 hL1 ⊢
  refine ⟨_, rfl, p, _, dx, _, _, rfl, hX1.rd.ob, T.c_BodyReader, T.n_BodyReader_statement_count, rfl, _, _, rfl, rfl, _, rfl, itF (decide_eq_false (by omega)) ?_⟩
  obtain ⟨dl, y1, y2, ly, ecy, usy, e1, e2, e3⟩ := id hL1
  rcases stD_cases hS with h | ⟨m, rfl, h⟩
  · rcases h with ⟨kk, e, ts, h1, h3, ho, hE, rfl, hls, rfl, rfl⟩ | ⟨rfl, hls, rfl, rfl⟩ | ⟨z, e, ts, hz, hzs, hE, rfl, hls, rfl, rfl⟩
    · -- put
      injection hls with h5 h6
      injection h5 with h5 h7
      injection h5 with _ h5
      subst h5 h6 h7
      refine ⟨_, rfl, rfl, _, rfl, itF (by decide +kernel) ⟨_, rfl, rfl, _, rfl, itF (by decide +kernel) ?_⟩⟩
      refine ⟨_, rfl, rfl, _, rfl, itF (by decide +kernel) ?_⟩
      refine ⟨_, rfl, rfl, _, rfl, itT (by decide +kernel) ?_⟩
      refine ⟨_, rfl, p, dx, _, rfl, hX1.rd.ob, rfl, _, rfl, _, rfl, p, q, nl, dx, l, a, zs, i, outs, sc + 1, kk, kn', e, ts, rfl, hX1.rd, hL1, h1, h3, ho, hX1.nm, hE, fun H2 v s2 hv => ?_⟩
      exact k H2 v (b1.trans (But.same s2)).two (hX1.rd.same s2) (s2 _ _ hX1.nm) hv
    · -- fail
      injection hls with h5 h6
      injection h5 with h5 h7
      injection h5 with _ h5
      subst h5 h6 h7
      refine ⟨_, rfl, rfl, _, rfl, itF (by decide +kernel) ⟨_, rfl, rfl, _, rfl, itF (by decide +kernel) ?_⟩⟩
      refine ⟨_, rfl, rfl, _, rfl, itF (by decide +kernel) ?_⟩
      refine ⟨_, rfl, rfl, _, rfl, itF (by decide +kernel) ?_⟩
      refine ⟨_, rfl, q, dl, _, rfl, e1, rfl, q, 1, _, rfl, hL1, by simp, ?_⟩
      refine ⟨by show 1 ≤ sizeLine; decide, fun t0 ht0 => ?_⟩
      have s2 := same_new ht0 (.tup [.str "fail"])
      exact k _ (.ref t0) (b1.trans (But.same s2)).two (hX1.rd.same s2) (s2 _ _ hX1.nm) (dp_tup upd_same (.cons (.str _) .nil))
    · -- let
      injection hls with h5 h6
      injection h5 with h5 h7
      injection h5 with _ h5
      subst h5 h6 h7
      refine ⟨_, rfl, rfl, _, rfl, itF (by decide +kernel) ⟨_, rfl, rfl, _, rfl, itF (by decide +kernel) ?_⟩⟩
      refine ⟨_, rfl, rfl, _, rfl, itT (by decide +kernel) ?_⟩
      refine ⟨_, rfl, q, dl, _, rfl, e1, rfl, rfl, rfl, q, 1, _, z, "stem", rfl, hL1, rfl, hz, hzs, fun H2 s2 => ?_⟩
      have hL2 := hL1.same s2
      have hX2 := hX1.same s2
      refine ⟨_, rfl, _, rfl, _, rfl, q, nl, _, [tW "let", tW z], ts, kn, e, rfl, rfl, hL2, hX2.nm, hE, fun H3 v s3 hv => ?_⟩
      refine ⟨by show 3 ≤ sizeLine; decide, fun t0 ht0 => ?_⟩
      have s4 := same_new ht0 (.tup [.str "let", .str z, v])
      have hX4 := hX2.same (s3.trans s4)
      have hd4 : Dp K (upd H3 t0 (.tup [.str "let", .str z, v])) (.ref t0) (.tuple [dS "let", dS z, e]) := dp_tup upd_same (.cons (.str _) (.cons (.str _) (.cons (dp_same s4 _ _ hv) .nil)))
      have b4 : But p H (upd H3 t0 (.tup [.str "let", .str z, v])) := b1.trans (But.same (s2.trans (s3.trans s4)))
      refine ⟨_, rfl, _, rfl, nl, _, rfl, .inl (SqL.of hX4.nm), rfl, flat_strs kn, _, rfl, ?_⟩
      have ei : (if true = true then !inV (.str z) (kn.map V.str) else inV (.str z) (kn.map V.str)) = !decide (z ∈ kn) := by rw [inV_str] <;> rfl
      by_cases hzk : z ∈ kn
      · rw [if_pos hzk] at k
        refine itF (by rw [ei, decide_eq_true hzk] <;> rfl) ⟨_, rfl, ?_⟩
        exact k _ (.ref t0) b4.two hX4.rd hX4.nm hd4
      · rw [if_neg hzk] at k
        refine itT (by rw [ei, decide_eq_false hzk] <;> rfl) ?_
        refine ⟨_, rfl, .inl ⟨rfl, _, SqL.of hX4.nm⟩, _, rfl, nl, _, _, rfl, rfl, hX4.nm, szl (by rw [List.length_map]; omega), ?_⟩
        refine ⟨_, rfl, ?_⟩
        have f5 := FK.lst (.lst (kn.map V.str ++ [.str z])) hX4.nm
        have ge : tupd (.tuple [dS "let", dS z, e]) = true := (stD_good hS).tup
        refine k _ (.ref t0) (fun c o hc hcp hcn => ?_) ⟨?_, ?_⟩ ?_ (f5.dp ge hd4)
        · rw [upd_ne hcn]
          exact b4 _ _ hc hcp
        · rw [upd_ne hX4.np.symm]
          exact hX4.rd.ob
        · rw [upd_ne hln]
          exact hX4.rd.ls
        · rw [upd_same, List.map_append] <;> rfl
  · rcases h with ⟨z, e, ts, body, bl, c1, hz, hzs, hE, hB, rfl, hls, rfl, rfl⟩ | ⟨e, ts, d1, l1, c1, d2, l2, c2, hE, hB1, rfl, rfl, rfl, hB2⟩
    · -- each
      injection hls with h5 h6
      injection h5 with h5 h7
      injection h5 with _ h5
      subst h5 h6 h7
      refine ⟨_, rfl, rfl, _, rfl, itF (by decide +kernel) ⟨_, rfl, rfl, _, rfl, itT (by decide +kernel) ?_⟩⟩
      refine ⟨_, rfl, _, _, rfl, rfl, _, rfl, itF (decide_eq_false (by omega)) ?_⟩
      refine ⟨_, rfl, rfl, _, rfl, itF (by decide +kernel) ?_⟩
      refine ⟨_, rfl, p, dx, _, rfl, hX1.rd.ob, rfl, _, rfl, _, rfl, _, rfl, m, p, q, nl, dx, l, a, d, zs, tls, i, sc + 1, kn', z, e, ts, body, bl, c1, rest, rfl, rfl, hd0, hdn, hX1, hL1, hz, hzs, hE, hB, hdr, by omega, hkc, fun H2 v hBt hR2 hv => ?_⟩
      have q1 : sc + 1 + c1 = sc + (c1 + 1) := by omega
      rw [q1] at hR2
      exact k H2 v (b1.trans hBt).two hR2 (hBt _ _ hX1.nm hX1.np) hv
    · -- if
      have hx1 : tW x' = tW "if" ∧ r = ts := by
        rcases hB2 with ⟨_, _, hls⟩ | ⟨_, hls⟩ <;> (injection hls with h5 _; injection h5 with h5 h7; exact ⟨h5, h7⟩)
      obtain ⟨h5, rfl⟩ := hx1
      injection h5 with _ h5
      subst h5
      refine ⟨_, rfl, rfl, _, rfl, itT (by decide +kernel) ?_⟩
      refine ⟨_, rfl, _, _, rfl, rfl, _, rfl, itF (decide_eq_false (by omega)) ?_⟩
      refine ⟨_, rfl, rfl, _, rfl, itT (by decide +kernel) ?_⟩
      refine ⟨_, rfl, p, dx, _, rfl, hX1.rd.ob, rfl, _, rfl, _, rfl, _, rfl, m, p, q, nl, dx, l, a, d, zs, tls, i, sc + 1, kn', e, r, d1, l1, c1, d2, l2, c2, ls, rest, rfl, rfl, hd0, hdn, hX1, hL1, hE, hB1, ?_, hdr, by omega, by omega, fun H2 v hBt hR2 hv => ?_⟩
      · rcases hB2 with ⟨h1, h2, hls⟩ | ⟨h1, hls⟩
        · injection hls with _ h6
          exact .inl ⟨h1, h2, h6⟩
        · injection hls with _ h6
          exact .inr ⟨h1, h6⟩
      · have q1 : sc + 1 + (c1 + c2) = sc + (c1 + c2 + 1) := by omega
        rw [q1] at hR2
        exact k H2 v (b1.trans hBt).two hR2 (hBt _ _ hX1.nm hX1.np) hv
/-- a block, up to n blocks within one another -/
theorem ok_blocks (T : Tp w K mg φ) (outs : Nat) : ∀ n : Nat, FnOk P w K mg base CX0 (3 * n + 14) (He.ma K (He.ga K "BodyReader") "read_block") (φ ("BodyReader", some "read_block")) P_BodyReader_read_block (spBlock K outs n)
  | 0 => ok_BodyReader_read_block T outs 0 (ok_BodyReader_read_statement T outs 0 (fnOk_never fun vs H Q E h => by
      obtain ⟨m, p, q, nl, dx, l, a, d, zs, tls, i, sc, kn, e, ts, b1, l1, c1, b2, l2, c2, ls, rest, h, _⟩ := h
      omega) (fnOk_never fun vs H Q E h => by
      obtain ⟨m, p, q, nl, dx, l, a, d, zs, tls, i, sc, kn, x, e, ts, b1, l1, c1, rest, h, _⟩ := h
      omega))
  | n + 1 => ok_BodyReader_read_block T outs (n + 1) (ok_BodyReader_read_statement T outs (n + 1) ((ok_BodyReader_read_if T outs n (ok_blocks T outs n)).mono (by omega)) ((ok_BodyReader_read_each T outs n (ok_blocks T outs n)).mono (by omega)))
end
end Ky

/-! Names, paths, patterns. -/
namespace Ky
open PySem PySem.Spec PyProof.Rows L2 TL
abbrev NC : Str := "abcdefghijklmnopqrstuvwxyz0123456789_."
def nameB (z cs : Str) : Bool := decide (1 ≤ z.length) && (decide (z.length ≤ 12) && (!(decide ((tl z).head? = some 46)) && (tl z).all fun c => decide (c ∈ tl cs)))
def pathB (z : Str) : Bool := decide ((Txt.split z "/").length ≤ 4) && (Txt.split z "/").all fun n => nameB n NC
def pattB (z : Str) : Bool := decide ((Txt.split z "/").length ≤ 4) && (decide (Txt.count z "*" = 1) && (Txt.split z "/").all fun n => nameB n (NC ++ "*"))
/-- short enough -/
def okW (z : Str) : Prop := z.length ≤ 1000 ∧ (Txt.split z "/").length ≤ 1000 ∧ ∀ n ∈ Txt.split z "/", n.length ≤ 1000
instance (z : Str) : Decidable (okW z) := by unfold okW; infer_instance
theorem c46 : ("." : Str) = S [46] := ext_tl (by decide +kernel)
section
variable {P : Program} {w : World} {K : PySem.W.Frag} {mg : Str → Option Value} {base : Heap} {φ : Str × Option Str → FuncData}
/-- [f(x) for x in a list], f of bools -/
theorem lc_lstb {vs : List Nat} {j : Nat} {σ : L2.St} {H : Hp} {Q : VK} {te tl0 : TE} {a : Addr} {xs : List V} (f : V → Bool) (htl : ∀ R : VK, R (.ref a) H → tl0 σ H R) (ha : SqL K H a xs) (hz : xs.length ≤ 100000)
    (hw : ∀ x, wipe ((wipe σ vs).set j (some x)) vs = wipe σ vs)
    (he : ∀ v ∈ xs, ∀ (H2 : Hp) (Q2 : VK), Same H H2 → (∀ H3, Same H2 H3 → Q2 (.bl (f v)) H3) → te ((wipe σ vs).set j (some v)) H2 Q2)
    (hq : ∀ D H', H D = none → Same H H' → H' D = some (.lst ((xs.map f).map V.bl)) → Q (.ref D) H') : tLc (iList K tl0) (gName j) tYes te vs σ H Q := by
  refine htl _ ⟨a, rfl, ⟨_, ha⟩, fun D hD => ?_⟩
  refine lc_list (K := K) (a := a) (xs := xs) (fun k H' => Same H H' ∧ H' D = some (.lst ((((xs.take k)).map f).map V.bl))) ⟨same_new hD _, upd_same⟩ (fun _ _ _ h => h.1.seq ha) ?_ ?_
  · rintro k x H1 hk ⟨s1, d1⟩
    have hm : x ∈ xs := List.mem_of_getElem? hk
    refine ⟨hw _, ?_⟩
    dsimp only [tYes]
    rw [if_pos rfl]
    refine he x hm _ _ s1 fun H3 s3 => ⟨_, s3 _ _ d1, ?_, Same.mut (s1.trans s3) hD, ?_⟩
    · have := lt_of_get hk
      rw [List.length_map, List.length_map, List.length_take]
      exact szl (by omega)
    · rw [upd_same]
      have e : xs.take (k + 1) = xs.take k ++ [x] := by rw [List.take_add_one, hk]; rfl
      rw [e, List.map_append, List.map_append]
      rfl
  · rintro H1 ⟨s1, d1⟩
    rw [List.take_length] at d1
    exact hq D H1 hD s1 d1
def spName : Sp := fun vs H Q _ => ∃ z cs : Str, vs = [.str z, .str cs] ∧ z.length ≤ 1000 ∧ ∀ H', Same H H' → Q (.bl (nameB z cs)) H'
theorem ok_is_name (T : Tp w K mg φ) : FnOk P w K mg base CX0 1 (He.ga K "is_name") (φ ("is_name", none)) P_is_name spName := by
  refine okF T.F_is_name sc_is_name (fun vs H Q E h => ?_) (fun cdv A outer s H vs Q E hr h => ?_)
  · obtain ⟨z, cs, rfl, _⟩ := h
    rfl
  obtain ⟨z, cs, rfl, hz, k⟩ := h
  have nd := sc_is_name.nd
  refine ⟨_, (pss_cons (ps_if (PW.pt (pw_or (pt_cmpR op_lt (pe_callB call_len_str (by rfl) T.z_len (by decide +kernel) (pa_cons (pv 0) pa_nil)) pe_int (nomark _)) (pw_or (pt_cmpR op_gt (pe_callB call_len_str (by rfl) T.z_len (by decide +kernel) (pa_cons (pv 0) pa_nil)) (pe_gint T.i_NAME_LIMIT) (nomark _)) (pw_or1 (pt_cmpR op_eq (pe_ix ix_str (pv 0) pe_int (fun _ _ => rfl)) pe_str (nomark _)))))) 
      (pss_one (ps_ret pe_bl)) pss_nil)
    (pss_one (ps_ret (pe_callB (cr_all rfl) (by rfl) T.z_all (by decide +kernel) (pa_cons (pe_lc (own := [("char", 2)]) (g := gName 2) rfl nd (pi_str (pv 0)) (blkOk_by (own := [("char", 2)]) (N := N_is_name) (sc := defScope s_is_name) (by decide +kernel)) (fun _ _ _ _ _ => pg_name (i := 2) nd rfl (Or.inl rfl)) (fun _ _ _ _ _ => pts_nil) (fun _ _ _ _ _ => (pe_cmpR op_in_sign (pv 2) (pv 1) (by rfl)))) pa_nil))))), ?_⟩
  have hs : z.length ≤ sizeLine := sz (by omega)
  unfold nameB at k
  refine ⟨_, rfl, z, rfl, hs, _, _, rfl, rfl, _, rfl, ?_⟩
  by_cases h1 : 1 ≤ z.length
  · refine itF (decide_eq_false (by omega)) ⟨_, rfl, z, rfl, hs, _, _, rfl, rfl, _, rfl, ?_⟩
    rw [decide_eq_true h1, Bool.true_and] at k
    by_cases h2 : z.length ≤ 12
    · rw [decide_eq_true h2, Bool.true_and] at k
      obtain ⟨c, r, hc⟩ : ∃ c r, tl z = c :: r := by
        cases e : tl z with
        | nil => rw [len_tl, e] at h1; exact absurd h1 (by decide)
        | cons c r => exact ⟨c, r, rfl⟩
      refine itF (decide_eq_false (by omega)) ⟨_, rfl, z, 0, c, rfl, rfl, hs, at_cons (p := []) hc, rfl, _, rfl, ?_⟩
      have eh : (tl z).head? = some c := by rw [hc]; rfl
      rw [eh] at k
      by_cases h3 : c = 46
      · refine itT (ch_is c46 h3) ?_
        rw [decide_eq_true (by rw [h3]), Bool.not_true, Bool.false_and] at k
        exact k H (Same.refl H)
      · refine itF (ch_no c46 h3) ?_
        rw [decide_eq_false (fun e => h3 (by injection e)), Bool.not_false, Bool.true_and] at k
        dsimp only [tNext, tRet, tCB, tCons, tNil]
        refine lc_strb (vs := [2]) (i := 0) (j := 2) (z := z) (σ := [some (.str z), some (.str cs), none]) (fun c => decide (c ∈ tl cs)) rfl (by omega) (fun _ => rfl) ?_ ?_
        · intro c hc H2 Q2 q
          exact ⟨_, rfl, _, rfl, c, _, rfl, rfl, q⟩
        · intro D H' hD s1 d1
          refine ⟨D, _, rfl, SqL.of d1, ?_⟩
          have e : ((tl z).map fun c => decide (c ∈ tl cs)).all id = (tl z).all fun c => decide (c ∈ tl cs) := by
            rw [List.all_map]
            rfl
          rw [e]
          exact k H' s1
    · refine itT (decide_eq_true (by omega)) ?_
      rw [decide_eq_false h2, Bool.false_and] at k
      exact k H (Same.refl H)
  · refine itT (decide_eq_true (by omega)) ?_
    rw [decide_eq_false h1, Bool.false_and] at k
    exact k H (Same.refl H)
def spPathB (f : Str → Bool) : Sp := fun vs H Q _ => ∃ z : Str, vs = [.str z] ∧ okW z ∧ ∀ H', Same H H' → Q (.bl (f z)) H'
theorem ok_is_path (T : Tp w K mg φ) : FnOk P w K mg base CX0 2 (He.ga K "is_path") (φ ("is_path", none)) P_is_path (spPathB pathB) := by
  have G_is_name := ok_is_name (P := P) (base := base) T
  refine okF T.F_is_path sc_is_path (fun vs H Q E h => ?_) (fun cdv A outer s H vs Q E hr h => ?_)
  · obtain ⟨z, rfl, _⟩ := h
    rfl
  obtain ⟨z, rfl, ⟨hz, hz2, hz3⟩, k⟩ := h
  have nd := sc_is_path.nd
  refine ⟨_, (pss_cons (ps_set (i := 1) nd rfl (Or.inl rfl) (pe_split (pv 0) pe_str))
    (pss_one (ps_ret (pe_and (pe_cmpR op_le (pe_callB call_len_seq (by rfl) T.z_len (by decide +kernel) (pa_cons (pv 1) pa_nil)) (pe_gint T.i_PATH_LIMIT) (nomark _)) (pe_one (pe_callB (cr_all rfl) (by rfl) T.z_all (by decide +kernel) (pa_cons (pe_lc (own := [("name", 2)]) (g := gName 2) rfl nd (pi_list (pv 1)) (blkOk_by (own := [("name", 2)]) (N := N_is_path) (sc := defScope s_is_path) (by decide +kernel)) (fun _ _ _ _ _ => pg_name (i := 2) nd rfl (Or.inl rfl)) (fun _ _ _ _ _ => pts_nil) (fun _ _ _ _ _ => (pe_call G_is_name (hr.mono (by omega)) rfl T.g_is_name T.k_is_name T.b_is_name .nil pass0 (pa_cons (pv 2) (pa_cons (pe_gstr T.s_NAME_CHARACTERS) pa_nil))))) pa_nil))))))), ?_⟩
  refine ⟨_, rfl, ⟨_, rfl⟩, _, _, rfl, rfl, by decide +kernel, sz (by omega), fun p hp => ?_⟩
  have s0 := same_new hp (.lst ((Txt.split z "/").map V.str))
  have hl : (Txt.split z "/").length = ((Txt.split z "/").map V.str).length := (List.length_map _).symm
  unfold pathB at k
  refine ⟨_, rfl, p, _, rfl, .inl (SqL.of upd_same), _, _, rfl, rfl, _, rfl, ?_⟩
  by_cases h1 : (Txt.split z "/").length ≤ 4
  · refine itT (decide_eq_true (by rw [← hl]; omega)) ?_
    rw [decide_eq_true h1, Bool.true_and] at k
    dsimp only [tCB, tCons, tNil]
    refine lc_lstb (K := K) (vs := [2]) (j := 2) (σ := [some (.str z), some (.ref p), none]) (fun v => match v with | .str n => nameB n NC | _ => false) (fun R q => ⟨_, rfl, q⟩) (SqL.of upd_same) (by rw [← hl]; omega) (fun _ => rfl) ?_ ?_
    · intro v hv H2 Q2 s2 q
      obtain ⟨n, hn, rfl⟩ := List.mem_map.mp hv
      exact ⟨_, rfl, n, _, rfl, hz3 n hn, fun H3 s3 => q H3 s3⟩
    · intro D H' hD s1 d1
      refine ⟨D, _, rfl, SqL.of d1, ?_⟩
      rw [List.all_map, List.all_map]
      exact k H' (s0.trans s1)
  · refine itF (decide_eq_false (by rw [← hl]; omega)) ?_
    rw [decide_eq_false h1, Bool.false_and] at k
    exact k _ s0
theorem ok_is_pattern (T : Tp w K mg φ) : FnOk P w K mg base CX0 2 (He.ga K "is_pattern") (φ ("is_pattern", none)) P_is_pattern (spPathB pattB) := by
  have G_is_name := ok_is_name (P := P) (base := base) T
  refine okF T.F_is_pattern sc_is_pattern (fun vs H Q E h => ?_) (fun cdv A outer s H vs Q E hr h => ?_)
  · obtain ⟨z, rfl, _⟩ := h
    rfl
  obtain ⟨z, rfl, ⟨hz, hz2, hz3⟩, k⟩ := h
  have nd := sc_is_pattern.nd
  refine ⟨_, (pss_cons (ps_set (i := 1) nd rfl (Or.inl rfl) (pe_split (pv 0) pe_str))
    (pss_cons (ps_if (PW.pt (pw_or (pt_cmpR op_gt (pe_callB call_len_seq (by rfl) T.z_len (by decide +kernel) (pa_cons (pv 1) pa_nil)) (pe_gint T.i_PATH_LIMIT) (nomark _)) (pw_or1 (pt_cmpR op_ne (pe_m1 PySem.F.slot_str_count PySem.F.type_str_count mt_count (pv 0) pe_str) pe_int (nomark _))))) 
      (pss_one (ps_ret pe_bl)) pss_nil)
    (pss_one (ps_ret (pe_callB (cr_all rfl) (by rfl) T.z_all (by decide +kernel) (pa_cons (pe_lc (own := [("name", 2)]) (g := gName 2) rfl nd (pi_list (pv 1)) (blkOk_by (own := [("name", 2)]) (N := N_is_pattern) (sc := defScope s_is_pattern) (by decide +kernel)) (fun _ _ _ _ _ => pg_name (i := 2) nd rfl (Or.inl rfl)) (fun _ _ _ _ _ => pts_nil) (fun _ _ _ _ _ => (pe_call G_is_name (hr.mono (by omega)) rfl T.g_is_name T.k_is_name T.b_is_name .nil pass0 (pa_cons (pv 2) (pa_cons (pe_op op_add_str (pe_gstr T.s_NAME_CHARACTERS) pe_str) pa_nil))))) pa_nil)))))), ?_⟩
  refine ⟨_, rfl, ⟨_, rfl⟩, _, _, rfl, rfl, by decide +kernel, sz (by omega), fun p hp => ?_⟩
  have s0 := same_new hp (.lst ((Txt.split z "/").map V.str))
  have hl : (Txt.split z "/").length = ((Txt.split z "/").map V.str).length := (List.length_map _).symm
  unfold pattB at k
  refine ⟨_, rfl, p, _, rfl, .inl (SqL.of upd_same), _, _, rfl, rfl, _, rfl, ?_⟩
  by_cases h1 : (Txt.split z "/").length ≤ 4
  · refine itF (decide_eq_false (by rw [← hl]; omega)) ?_
    rw [decide_eq_true h1, Bool.true_and] at k
    refine ⟨_, rfl, ⟨_, rfl⟩, _, _, rfl, rfl, rfl, _, rfl, ?_⟩
    by_cases h2 : Txt.count z "*" = 1
    · refine itF (nb (decide_eq_true (congrArg V.int h2))) ?_
      rw [decide_eq_true h2, Bool.true_and] at k
      dsimp only [tNext, tRet, tCB, tCons, tNil]
      refine lc_lstb (K := K) (vs := [2]) (j := 2) (σ := [some (.str z), some (.ref p), none]) (fun v => match v with | .str n => nameB n (NC ++ "*") | _ => false) (fun R q => ⟨_, rfl, q⟩) (SqL.of upd_same) (by rw [← hl]; omega) (fun _ => rfl) ?_ ?_
      · intro v hv H2 Q2 s2 q
        obtain ⟨n, hn, rfl⟩ := List.mem_map.mp hv
        exact ⟨_, rfl, _, _, rfl, rfl, by decide +kernel, n, _, rfl, hz3 n hn, fun H3 s3 => q H3 s3⟩
      · intro D H' hD s1 d1
        refine ⟨D, _, rfl, SqL.of d1, ?_⟩
        rw [List.all_map, List.all_map]
        exact k H' (s0.trans s1)
    · refine itT (nb' (decide_eq_false fun e => h2 (V.int.inj e))) ?_
      rw [decide_eq_false h2, Bool.false_and] at k
      exact k _ s0
  · refine itT (decide_eq_true (by rw [← hl]; omega)) ?_
    rw [decide_eq_false h1, Bool.false_and] at k
    exact k _ s0
end
end Ky

/-! Trees. -/
namespace Ky
open PySem PySem.Spec PyProof.Rows L2 TL
/-- an entry: a file with its text and writer; a link -/
inductive Ent where
  | file (t b : Str)
  | link (t : Str)
def entT : Ent → List V
  | .file t b => [.str "file", .str t, .str b]
  | .link t => [.str "link", .str t]
/-- the pairs of the dict say these entries -/
def EntAt (H : Hp) : List (Key × V) → List (Str × Ent) → Prop
  | [], [] => True
  | kv :: kvs, pe :: es => kv.1 = (Sum.inr pe.1 : Key) ∧ (∃ t, kv.2 = .ref t ∧ H t = some (.tup (entT pe.2))) ∧ EntAt H kvs es
  | _, _ => False
def look (es : List (Str × Ent)) (q : Str) : Option Ent := (es.find? fun pe => decide (pe.1 = q)).map (·.2)
def putE (es : List (Str × Ent)) (q : Str) (e : Ent) : List (Str × Ent) := if (es.any fun pe => decide (pe.1 = q)) = true then es.map (fun pe => if pe.1 = q then (pe.1, e) else pe) else es ++ [(q, e)]
theorem klink : decide (V.str ("link" : Str) = V.str ("link" : Str)) = true := by decide +kernel
theorem kfile : decide (V.str ("file" : Str) = V.str ("link" : Str)) = false := by decide +kernel
theorem key_dec (a b : Str) : decide ((Sum.inr a : Key) = Sum.inr b) = decide (a = b) := key_rr a b
theorem ent_len {H : Hp} : ∀ {kvs : List (Key × V)} {es : List (Str × Ent)}, EntAt H kvs es → kvs.length = es.length
  | [], [], _ => rfl
  | kv :: kvs, pe :: es, h => by rw [List.length_cons, List.length_cons, ent_len h.2.2]
theorem ent_val {H : Hp} (q : Str) : ∀ {kvs : List (Key × V)} {es : List (Str × Ent)}, EntAt H kvs es → (look es q = none ∧ valV kvs (Sum.inr q : Key) = none) ∨ ∃ e t, look es q = some e ∧ valV kvs (Sum.inr q : Key) = some (.ref t) ∧ H t = some (.tup (entT e))
  | [], [], _ => .inl ⟨rfl, rfl⟩
  | kv :: kvs, pe :: es, ⟨h1, ⟨t, h2, h3⟩, h4⟩ => by
    by_cases e : pe.1 = q
    · refine .inr ⟨pe.2, t, ?_, ?_, h3⟩
      · unfold look
        rw [List.find?_cons, decide_eq_true e]
        rfl
      · rw [valV_pos (by rw [h1, e]), h2]
    · have hl : look (pe :: es) q = look es q := by
        unfold look
        rw [List.find?_cons, decide_eq_false e]
      rw [hl, valV_neg (by rw [h1]; intro z; exact e (Sum.inr.inj z))]
      exact ent_val q h4
theorem ent_mem {H : Hp} {k : Key} {v : V} : ∀ {kvs : List (Key × V)} {es : List (Str × Ent)} {i : Nat}, EntAt H kvs es → kvs[i]? = some (k, v) → ∃ q, k = (Sum.inr q : Key) ∧ ∃ e, es[i]? = some (q, e)
  | [], [], i, _, h => by simp at h
  | kv :: kvs, pe :: es, 0, ⟨h1, _, _⟩, h => by
    have e : kv = (k, v) := by simpa using h
    subst e
    exact ⟨pe.1, h1, pe.2, rfl⟩
  | kv :: kvs, pe :: es, i + 1, ⟨_, _, h4⟩, h => by
    obtain ⟨q, e1, e, e2⟩ := ent_mem (i := i) h4 (by simpa using h)
    exact ⟨q, e1, e, by simpa using e2⟩
theorem ent_fk {H H' : Hp} (f : TKeep H H') : ∀ {kvs : List (Key × V)} {es : List (Str × Ent)}, EntAt H kvs es → EntAt H' kvs es
  | [], [], _ => trivial
  | kv :: kvs, pe :: es, ⟨h1, ⟨t, h2, h3⟩, h4⟩ => ⟨h1, ⟨t, h2, f _ _ h3⟩, ent_fk f h4⟩
theorem ent_any {H : Hp} (q : Str) : ∀ {kvs : List (Key × V)} {es : List (Str × Ent)}, EntAt H kvs es → (kvs.any fun kv => decide (kv.1 = (Sum.inr q : Key))) = es.any fun pe => decide (pe.1 = q)
  | [], [], _ => rfl
  | kv :: kvs, pe :: es, ⟨h1, _, h4⟩ => by
    rw [List.any_cons, List.any_cons, ent_any q h4, h1, key_dec]
theorem ent_set {H : Hp} {q : Str} {e : Ent} {t : Addr} (ht : H t = some (.tup (entT e))) : ∀ {kvs : List (Key × V)} {es : List (Str × Ent)}, EntAt H kvs es →
    EntAt H (kvs.map fun kv => if kv.1 = (Sum.inr q : Key) then (kv.1, .ref t) else kv) (es.map fun pe => if pe.1 = q then (pe.1, e) else pe)
  | [], [], _ => trivial
  | kv :: kvs, pe :: es, ⟨h1, h2, h4⟩ => by
    rw [List.map_cons, List.map_cons]
    by_cases z : pe.1 = q
    · rw [if_pos z, if_pos (by rw [h1, z])]
      exact ⟨h1, ⟨t, rfl, ht⟩, ent_set ht h4⟩
    · rw [if_neg z, if_neg (by rw [h1]; intro y; exact z (Sum.inr.inj y))]
      exact ⟨h1, h2, ent_set ht h4⟩
theorem ent_snoc {H : Hp} {q : Str} {e : Ent} {t : Addr} (ht : H t = some (.tup (entT e))) : ∀ {kvs : List (Key × V)} {es : List (Str × Ent)}, EntAt H kvs es → EntAt H (kvs ++ [((Sum.inr q : Key), .ref t)]) (es ++ [(q, e)])
  | [], [], _ => ⟨rfl, ⟨t, rfl, ht⟩, trivial⟩
  | kv :: kvs, pe :: es, ⟨h1, h2, h4⟩ => ⟨h1, h2, ent_snoc ht h4⟩
theorem ent_put {H : Hp} {kvs : List (Key × V)} {es : List (Str × Ent)} {q : Str} {e : Ent} {t : Addr} (ht : H t = some (.tup (entT e))) (h : EntAt H kvs es) : EntAt H (putK kvs (Sum.inr q : Key) (.ref t)) (putE es q e) := by
  unfold putK putE
  rw [ent_any q h]
  by_cases z : (es.any fun pe => decide (pe.1 = q)) = true
  · rw [if_pos z, if_pos z]
    exact ent_set ht h
  · rw [if_neg z, if_neg z]
    exact ent_snoc ht h
/-- a tree that may be read -/
structure TrR (K : PySem.W.Frag) (H : Hp) (p dx d : Addr) (kvs : List (Key × V)) (es : List (Str × Ent)) : Prop where
  ob : H p = some (.ins (He.ga K "Tree") dx [("entries", .ref d)])
  dc : Rd H d (.dK kvs)
  en : EntAt H kvs es
structure TrW (K : PySem.W.Frag) (H : Hp) (p dx d : Addr) (kvs : List (Key × V)) (es : List (Str × Ent)) : Prop where
  ob : H p = some (.ins (He.ga K "Tree") dx [("entries", .ref d)])
  dc : H d = some (.dK kvs)
  en : EntAt H kvs es
theorem TrW.r {K : PySem.W.Frag} {H : Hp} {p dx d : Addr} {kvs : List (Key × V)} {es : List (Str × Ent)} (h : TrW K H p dx d kvs es) : TrR K H p dx d kvs es := ⟨h.ob, .inl h.dc, h.en⟩
theorem TrW.same {K : PySem.W.Frag} {H H' : Hp} {p dx d : Addr} {kvs : List (Key × V)} {es : List (Str × Ent)} (h : TrW K H p dx d kvs es) (e : Same H H') : TrW K H' p dx d kvs es := ⟨e _ _ h.ob, e _ _ h.dc, ent_fk (FK.same e).t h.en⟩
def kindE : Option Ent → Str
  | none => "none"
  | some (.file _ _) => "file"
  | some (.link _) => "link"
def readE : Option Ent → V
  | some (.file t _) => .str t
  | _ => .non
def writerE : Option Ent → V
  | some (.file _ b) => .str b
  | _ => .non
def targetE : Option Ent → Option Str
  | some (.link t) => some t
  | _ => none
def ov : Option Str → V
  | some x => .str x
  | none => .non
def tgtV (e : Option Ent) : V := ov (targetE e)
def persE : Option Ent → Bool
  | some (.link _) => true
  | some (.file _ b) => decide (b = ("person" : Str))
  | none => false
def rslv (es : List (Str × Ent)) : Nat → Str → Option Str
  | 0, q => match targetE (look es q) with
    | some _ => none
    | none => some q
  | n + 1, q => match targetE (look es q) with
    | some t => rslv es n t
    | none => some q
section
variable {P : Program} {w : World} {K : PySem.W.Frag} {mg : Str → Option Value} {base : Heap} {φ : Str × Option Str → FuncData}
def spTr (K : PySem.W.Frag) (f : Option Ent → V) : Sp := fun vs H Q _ => ∃ (p dx d : Addr) (kvs : List (Key × V)) (es : List (Str × Ent)) (q : Str), vs = [.ref p, .str q] ∧ TrR K H p dx d kvs es ∧ Q (f (look es q)) H
theorem spTr_len {f : Option Ent → V} {vs : List V} {H : Hp} {Q : VK} {E : XK} (h : spTr K f vs H Q E) : vs.length = 2 := by
  obtain ⟨p, dx, d, kvs, es, q, rfl, _⟩ := h
  rfl
theorem ok_Tree_kind (T : Tp w K mg φ) : FnOk P w K mg base CX0 1 (He.ma K (He.ga K "Tree") "kind") (φ ("Tree", some "kind")) P_Tree_kind (spTr K fun e => .str (kindE e)) := by
  refine okF T.F_Tree_kind sc_Tree_kind (fun vs H Q E h => spTr_len h) (fun cdv A outer s H vs Q E hr h => ?_)
  obtain ⟨p, dx, d, kvs, es, q, rfl, hT, k⟩ := h
  have nd := sc_Tree_kind.nd
  have hu := hu_of hr
  refine ⟨_, (pss_cons (ps_set (i := 2) nd rfl (Or.inl rfl) (pe_dget1 hu (pe_fld (pv 0) rfl) (pv 1) ⟨rfl, rfl, rfl, rfl⟩))
    (pss_cons (ps_if (pt_cmpR op_isN (pv 2) pe_non (nomark _)) 
      (pss_one (ps_ret pe_str)) pss_nil)
    (pss_one (ps_ret (pe_ix ix_tup (pv 2) pe_int (fun _ _ => rfl)))))), ?_⟩
  refine ⟨_, rfl, p, _, dx, _, _, rfl, hT.ob, T.c_Tree, T.n_Tree_entries, rfl, d, rfl, .inl ⟨kvs, hT.dc⟩, _, rfl, _, .inl ⟨kvs, Sum.inr q, hT.dc, rfl, rfl⟩, ?_⟩
  rcases ent_val q hT.en with ⟨h1, h2⟩ | ⟨e, t, h1, h2, h3⟩
  · rw [h2]
    rw [h1] at k
    exact ⟨_, rfl, rfl, _, rfl, itT rfl k⟩
  · rw [h2]
    rw [h1] at k
    refine ⟨_, rfl, rfl, _, rfl, itF rfl ⟨_, rfl, t, _, _, _, rfl, rfl, .inl (.inl h3), ?_, k⟩⟩
    cases e <;> rfl
theorem ok_Tree_read (T : Tp w K mg φ) : FnOk P w K mg base CX0 1 (He.ma K (He.ga K "Tree") "read") (φ ("Tree", some "read")) P_Tree_read (spTr K readE) := by
  refine okF T.F_Tree_read sc_Tree_read (fun vs H Q E h => spTr_len h) (fun cdv A outer s H vs Q E hr h => ?_)
  obtain ⟨p, dx, d, kvs, es, q, rfl, hT, k⟩ := h
  have nd := sc_Tree_read.nd
  have hu := hu_of hr
  refine ⟨_, (pss_cons (ps_set (i := 2) nd rfl (Or.inl rfl) (pe_dget1 hu (pe_fld (pv 0) rfl) (pv 1) ⟨rfl, rfl, rfl, rfl⟩))
    (pss_cons (ps_if (PW.pt (pw_or (pt_cmpR op_isN (pv 2) pe_non (nomark _)) (pw_or1 (pt_cmpR op_ne (pe_ix ix_tup (pv 2) pe_int (fun _ _ => rfl)) pe_str (nomark _))))) 
      (pss_one (ps_ret pe_non)) pss_nil)
    (pss_one (ps_ret (pe_ix ix_tup (pv 2) pe_int (fun _ _ => rfl)))))), ?_⟩
  refine ⟨_, rfl, p, _, dx, _, _, rfl, hT.ob, T.c_Tree, T.n_Tree_entries, rfl, d, rfl, .inl ⟨kvs, hT.dc⟩, _, rfl, _, .inl ⟨kvs, Sum.inr q, hT.dc, rfl, rfl⟩, ?_⟩
  rcases ent_val q hT.en with ⟨h1, h2⟩ | ⟨e, t, h1, h2, h3⟩
  · rw [h2]
    rw [h1] at k
    exact ⟨_, rfl, rfl, _, rfl, itT rfl k⟩
  · rw [h2]
    rw [h1] at k
    refine ⟨_, rfl, rfl, _, rfl, itF rfl ?_⟩
    cases e with
    | file t1 b1 => exact ⟨_, rfl, t, _, _, _, rfl, rfl, .inl (.inl h3), rfl, rfl, _, rfl, itF (by decide +kernel) ⟨_, rfl, t, _, _, _, rfl, rfl, .inl (.inl h3), rfl, k⟩⟩
    | link t1 => exact ⟨_, rfl, t, _, _, _, rfl, rfl, .inl (.inl h3), rfl, rfl, _, rfl, itT (by decide +kernel) k⟩
theorem ok_Tree_writer (T : Tp w K mg φ) : FnOk P w K mg base CX0 1 (He.ma K (He.ga K "Tree") "writer") (φ ("Tree", some "writer")) P_Tree_writer (spTr K writerE) := by
  refine okF T.F_Tree_writer sc_Tree_writer (fun vs H Q E h => spTr_len h) (fun cdv A outer s H vs Q E hr h => ?_)
  obtain ⟨p, dx, d, kvs, es, q, rfl, hT, k⟩ := h
  have nd := sc_Tree_writer.nd
  have hu := hu_of hr
  refine ⟨_, (pss_cons (ps_set (i := 2) nd rfl (Or.inl rfl) (pe_dget1 hu (pe_fld (pv 0) rfl) (pv 1) ⟨rfl, rfl, rfl, rfl⟩))
    (pss_cons (ps_if (PW.pt (pw_or (pt_cmpR op_isN (pv 2) pe_non (nomark _)) (pw_or1 (pt_cmpR op_ne (pe_ix ix_tup (pv 2) pe_int (fun _ _ => rfl)) pe_str (nomark _))))) 
      (pss_one (ps_ret pe_non)) pss_nil)
    (pss_one (ps_ret (pe_ix ix_tup (pv 2) pe_int (fun _ _ => rfl)))))), ?_⟩
  refine ⟨_, rfl, p, _, dx, _, _, rfl, hT.ob, T.c_Tree, T.n_Tree_entries, rfl, d, rfl, .inl ⟨kvs, hT.dc⟩, _, rfl, _, .inl ⟨kvs, Sum.inr q, hT.dc, rfl, rfl⟩, ?_⟩
  rcases ent_val q hT.en with ⟨h1, h2⟩ | ⟨e, t, h1, h2, h3⟩
  · rw [h2]
    rw [h1] at k
    exact ⟨_, rfl, rfl, _, rfl, itT rfl k⟩
  · rw [h2]
    rw [h1] at k
    refine ⟨_, rfl, rfl, _, rfl, itF rfl ?_⟩
    cases e with
    | file t1 b1 => exact ⟨_, rfl, t, _, _, _, rfl, rfl, .inl (.inl h3), rfl, rfl, _, rfl, itF (by decide +kernel) ⟨_, rfl, t, _, _, _, rfl, rfl, .inl (.inl h3), rfl, k⟩⟩
    | link t1 => exact ⟨_, rfl, t, _, _, _, rfl, rfl, .inl (.inl h3), rfl, rfl, _, rfl, itT (by decide +kernel) k⟩
theorem ok_Tree_target (T : Tp w K mg φ) : FnOk P w K mg base CX0 1 (He.ma K (He.ga K "Tree") "target") (φ ("Tree", some "target")) P_Tree_target (spTr K tgtV) := by
  refine okF T.F_Tree_target sc_Tree_target (fun vs H Q E h => spTr_len h) (fun cdv A outer s H vs Q E hr h => ?_)
  obtain ⟨p, dx, d, kvs, es, q, rfl, hT, k⟩ := h
  have nd := sc_Tree_target.nd
  have hu := hu_of hr
  refine ⟨_, (pss_cons (ps_set (i := 2) nd rfl (Or.inl rfl) (pe_dget1 hu (pe_fld (pv 0) rfl) (pv 1) ⟨rfl, rfl, rfl, rfl⟩))
    (pss_cons (ps_if (PW.pt (pw_or (pt_cmpR op_isN (pv 2) pe_non (nomark _)) (pw_or1 (pt_cmpR op_ne (pe_ix ix_tup (pv 2) pe_int (fun _ _ => rfl)) pe_str (nomark _))))) 
      (pss_one (ps_ret pe_non)) pss_nil)
    (pss_one (ps_ret (pe_ix ix_tup (pv 2) pe_int (fun _ _ => rfl)))))), ?_⟩
  refine ⟨_, rfl, p, _, dx, _, _, rfl, hT.ob, T.c_Tree, T.n_Tree_entries, rfl, d, rfl, .inl ⟨kvs, hT.dc⟩, _, rfl, _, .inl ⟨kvs, Sum.inr q, hT.dc, rfl, rfl⟩, ?_⟩
  rcases ent_val q hT.en with ⟨h1, h2⟩ | ⟨e, t, h1, h2, h3⟩
  · rw [h2]
    rw [h1] at k
    exact ⟨_, rfl, rfl, _, rfl, itT rfl k⟩
  · rw [h2]
    rw [h1] at k
    refine ⟨_, rfl, rfl, _, rfl, itF rfl ?_⟩
    cases e with
    | file t1 b1 => exact ⟨_, rfl, t, _, _, _, rfl, rfl, .inl (.inl h3), rfl, rfl, _, rfl, itT (by decide +kernel) k⟩
    | link t1 => exact ⟨_, rfl, t, _, _, _, rfl, rfl, .inl (.inl h3), rfl, rfl, _, rfl, itF (by decide +kernel) ⟨_, rfl, t, _, _, _, rfl, rfl, .inl (.inl h3), rfl, k⟩⟩
theorem ok_Tree_is_personal (T : Tp w K mg φ) : FnOk P w K mg base CX0 2 (He.ma K (He.ga K "Tree") "is_personal") (φ ("Tree", some "is_personal")) P_Tree_is_personal (spTr K fun e => .bl (persE e)) := by
  have G_Tree_kind := ok_Tree_kind (P := P) (base := base) T
  have G_Tree_writer := ok_Tree_writer (P := P) (base := base) T
  refine okF T.F_Tree_is_personal sc_Tree_is_personal (fun vs H Q E h => spTr_len h) (fun cdv A outer s H vs Q E hr h => ?_)
  obtain ⟨p, dx, d, kvs, es, q, rfl, hT, k⟩ := h
  refine ⟨_, (pss_one (ps_ret (pe_or (pe_cmpR op_eq (pe_meth (pv 0) T.c_Tree T.m_Tree_kind G_Tree_kind (hr.mono (by omega)) T.b_Tree_kind .nil pass0 (pa_cons (pv 1) pa_nil)) pe_str (nomark _)) (pe_one (pe_cmpR op_eq (pe_meth (pv 0) T.c_Tree T.m_Tree_writer G_Tree_writer (hr.mono (by omega)) T.b_Tree_writer .nil pass0 (pa_cons (pv 1) pa_nil)) pe_str (nomark _)))))), ?_⟩
  refine ⟨_, rfl, p, dx, _, rfl, hT.ob, rfl, _, rfl, p, dx, d, kvs, es, q, rfl, hT, rfl, _, rfl, ?_⟩
  cases e : look es q with
  | none =>
    rw [e] at k
    refine itF (by decide +kernel) ⟨_, rfl, p, dx, _, rfl, hT.ob, rfl, _, rfl, p, dx, d, kvs, es, q, rfl, hT, ?_⟩
    rw [e]
    exact ⟨rfl, k⟩
  | some x =>
    rw [e] at k
    cases x with
    | link t => exact itT klink k
    | file t b =>
      refine itF kfile ⟨_, rfl, p, dx, _, rfl, hT.ob, rfl, _, rfl, p, dx, d, kvs, es, q, rfl, hT, ?_⟩
      rw [e]
      refine ⟨rfl, ?_⟩
      have e2 : decide (V.str b = V.str ("person" : Str)) = decide (b = ("person" : Str)) := by
        by_cases h : b = ("person" : Str)
        · rw [h]; simp
        · rw [decide_eq_false h, decide_eq_false fun z => h (V.str.inj z)]
      show Q (.bl (decide (V.str b = V.str ("person" : Str)))) H
      rw [e2]
      exact k
end
end Ky

/-! Trees: links followed, room, writing, a twin; contents. -/
namespace Ky
open PySem PySem.Spec PyProof.Rows L2 TL
theorem kperson : (!decide (V.str ("person" : Str) = V.str ("person" : Str))) = false := by decide +kernel
def tcB (c : Nat) : Bool := decide (c = 10) || (decide (32 ≤ c) && (decide (c ≤ 126) && !decide (c = 37)))
def txtB (l : List Nat) : Bool := l.all tcB
theorem ent_nd {es : List (Str × Ent)} {q : Str} {e : Ent} (h : (es.map (·.1)).Nodup) : ((putE es q e).map (·.1)).Nodup := by
  unfold putE
  by_cases z : (es.any fun pe => decide (pe.1 = q)) = true
  · rw [if_pos z]
    have e1 : (es.map fun pe => if pe.1 = q then (pe.1, e) else pe).map (·.1) = es.map (·.1) := by
      rw [List.map_map]
      apply List.map_congr_left
      intro pe _
      show (if pe.1 = q then (pe.1, e) else pe).1 = pe.1
      split <;> rfl
    rw [e1]
    exact h
  · rw [if_neg z, List.map_append]
    refine nd_snoc h fun m => z ?_
    obtain ⟨pe, hp, e1⟩ := List.mem_map.mp m
    exact List.any_eq_true.mpr ⟨pe, hp, decide_eq_true e1⟩
theorem ent_keys {H : Hp} : ∀ {kvs : List (Key × V)} {es : List (Str × Ent)}, EntAt H kvs es → kvs.map (·.1) = es.map fun pe => (Sum.inr pe.1 : Key)
  | [], [], _ => rfl
  | kv :: kvs, pe :: es, ⟨h1, _, h4⟩ => by rw [List.map_cons, List.map_cons, h1, ent_keys h4]
theorem putE_len {es : List (Str × Ent)} {q : Str} {e : Ent} : (putE es q e).length ≤ es.length + 1 := by
  unfold putE
  split
  · rw [List.length_map]; omega
  · rw [List.length_append]; simp
section
variable {P : Program} {w : World} {K : PySem.W.Frag} {mg : Str → Option Value} {base : Heap} {φ : Str × Option Str → FuncData}
theorem ok_Tree_resolve (T : Tp w K mg φ) : FnOk P w K mg base CX0 2 (He.ma K (He.ga K "Tree") "resolve") (φ ("Tree", some "resolve")) P_Tree_resolve
    (fun vs H Q _ => ∃ (p dx d : Addr) (kvs : List (Key × V)) (es : List (Str × Ent)) (q : Str), vs = [.ref p, .str q] ∧ TrR K H p dx d kvs es ∧ Q (ov (rslv es 8 q)) H) := by
  have G_Tree_target := ok_Tree_target (P := P) (base := base) T
  refine okF T.F_Tree_resolve sc_Tree_resolve (fun vs H Q E h => ?_) (fun cdv A outer s H vs Q E hr h => ?_)
  · obtain ⟨p, dx, d, kvs, es, q, rfl, _⟩ := h
    rfl
  obtain ⟨p, dx, d, kvs, es, q, rfl, hT, k⟩ := h
  have nd := sc_Tree_resolve.nd
  refine ⟨_, (pss_cons (ps_set (i := 2) nd rfl (Or.inl rfl) (pv 1))
    (pss_cons (ps_for PassesOwn.never rfl (pi_range1 rfl T.z_range (pa_cons (pe_gint T.i_LINK_LIMIT) pa_nil)) (pg_name (i := 3) nd rfl (Or.inl rfl)) 
      (pss_cons (ps_set (i := 4) nd rfl (Or.inl rfl) (pe_meth (pv 0) T.c_Tree T.m_Tree_target G_Tree_target (hr.mono (by omega)) T.b_Tree_target .nil pass0 (pa_cons (pv 2) pa_nil)))
      (pss_cons (ps_if (pt_cmpR op_isN (pv 4) pe_non (nomark _)) 
        (pss_one (ps_ret (pv 2))) pss_nil)
      (pss_one (ps_set (i := 2) nd rfl (Or.inl rfl) (pv 4))))))
    (pss_cons (ps_if (pt_cmpR op_notN (pe_meth (pv 0) T.c_Tree T.m_Tree_target G_Tree_target (hr.mono (by omega)) T.b_Tree_target .nil pass0 (pa_cons (pv 2) pa_nil)) pe_non (nomark _)) 
      (pss_one (ps_ret pe_non)) pss_nil)
    (pss_one (ps_ret (pv 2)))))), ?_⟩
  refine ⟨_, rfl, ?_⟩
  refine ⟨8, rfl, by decide, by decide, for_range (n := 8) (fun i σ H' => ∃ cur v3 v4, rslv es (8 - i) cur = rslv es 8 q ∧ σ = [some (.ref p), some (.str q), some (.str cur), v3, v4] ∧ H' = H) ⟨q, none, none, rfl, rfl, rfl⟩ ?_ ?_⟩
  · rintro i σ H' hi ⟨cur, v3, v4, hc, rfl, rfl⟩
    refine ⟨_, rfl, p, dx, _, rfl, hT.ob, rfl, _, rfl, p, dx, d, kvs, es, cur, rfl, hT, ?_⟩
    have e8 : 8 - i = (8 - (i + 1)) + 1 := by omega
    rw [e8] at hc
    cases e : targetE (look es cur) with
    | none =>
      have ev : tgtV (look es cur) = V.non := by unfold tgtV; rw [e]; rfl
      rw [ev]
      refine ⟨_, rfl, rfl, _, rfl, itT rfl ⟨_, rfl, ?_⟩⟩
      have e2 : rslv es 8 q = some cur := by
        rw [← hc]
        unfold rslv
        rw [e]
      rw [e2] at k
      exact k
    | some t =>
      have ev : tgtV (look es cur) = V.str t := by unfold tgtV; rw [e]; rfl
      rw [ev]
      refine ⟨_, rfl, rfl, _, rfl, itF rfl ⟨_, rfl, t, _, _, ?_, rfl, rfl⟩⟩
      rw [← hc]
      conv => rhs; unfold rslv
      rw [e]
  · rintro σ H' ⟨cur, v3, v4, hc, rfl, rfl⟩
    refine ⟨_, rfl, p, dx, _, rfl, hT.ob, rfl, _, rfl, p, dx, d, kvs, es, cur, rfl, hT, ?_⟩
    rw [← hc] at k
    have e0 : rslv es (8 - 8) cur = match targetE (look es cur) with
      | some _ => none
      | none => some cur := rfl
    rw [e0] at k
    cases e : targetE (look es cur) with
    | none =>
      have ev : tgtV (look es cur) = V.non := by unfold tgtV; rw [e]; rfl
      rw [ev]
      rw [e] at k
      exact ⟨rfl, _, rfl, itF rfl ⟨_, rfl, k⟩⟩
    | some t =>
      have ev : tgtV (look es cur) = V.str t := by unfold tgtV; rw [e]; rfl
      rw [ev]
      rw [e] at k
      exact ⟨rfl, _, rfl, itT rfl k⟩
theorem ok_Tree_check_room (T : Tp w K mg φ) : FnOk P w K mg base CX0 3 (He.ma K (He.ga K "Tree") "check_room") (φ ("Tree", some "check_room")) P_Tree_check_room
    (fun vs H Q _ => ∃ (p dx d : Addr) (kvs : List (Key × V)) (es : List (Str × Ent)) (q : Str), vs = [.ref p, .str q] ∧ TrW K H p dx d kvs es ∧ es.length ≤ 50 ∧ ∀ H', Same H H' → Q .non H') := by
  have G_Tree_is_personal := ok_Tree_is_personal (P := P) (base := base) T
  refine okF T.F_Tree_check_room sc_Tree_check_room (fun vs H Q E h => ?_) (fun cdv A outer s H vs Q E hr h => ?_)
  · obtain ⟨p, dx, d, kvs, es, q, rfl, _⟩ := h
    rfl
  obtain ⟨p, dx, d, kvs, es, q, rfl, hT, hle, k⟩ := h
  have nd := sc_Tree_check_room.nd
  refine ⟨_, (pss_one (ps_if (PW.pt (pw_and (pt_not (pt_val (pe_meth (pv 0) T.c_Tree T.m_Tree_is_personal G_Tree_is_personal (hr.mono (by omega)) T.b_Tree_is_personal .nil pass0 (pa_cons (pv 1) pa_nil)))) (pw_and1 (pt_cmpR op_ge (pe_callB call_len_seq (by rfl) T.z_len (by decide +kernel) (pa_cons (pe_lock (pe_lc (own := [("other", 2)]) (g := gName 2) rfl nd (pi_keys (pe_fld (pv 0) rfl)) (blkOk_by (own := [("other", 2)]) (N := N_Tree_check_room) (sc := defScope s_Tree_check_room) (by decide +kernel)) (fun _ _ _ _ _ => pg_name (i := 2) nd rfl (Or.inl rfl)) (fun _ _ _ _ _ => pts_one (pt_val (pe_meth (pv 0) T.c_Tree T.m_Tree_is_personal G_Tree_is_personal (hr.mono (by omega)) T.b_Tree_is_personal .nil pass0 (pa_cons (pv 2) pa_nil)))) (fun _ _ _ _ _ => pe_int))) pa_nil)) (pe_gint T.i_ENTRY_LIMIT) (nomark _))))) 
      (pss_one ps_never) pss_nil)), ?_⟩
  refine ⟨_, rfl, p, dx, _, rfl, hT.ob, rfl, _, rfl, p, dx, d, kvs, es, q, rfl, hT.r, _, rfl, ?_⟩
  cases hp : persE (look es q) with
  | true => exact itF rfl (k H (Same.refl H))
  | false =>
    refine itT rfl ⟨d, _, hT.dc, trivial, fun od => ?_⟩
    have npd : p ≠ d := ne_of hT.ob hT.dc (by intro z; cases z)
    have fk0 : TKeep H (upd H d (.frz od (.dK kvs))) := fun c xs e => by
      rw [upd_ne (ne_of e hT.dc (by intro z; cases z))]
      exact e
    have h1 : upd H d (.frz od (.dK kvs)) p = some (.ins (He.ga K "Tree") dx [("entries", .ref d)]) := by rw [upd_ne npd]; exact hT.ob
    refine ⟨_, rfl, p, _, dx, _, _, rfl, h1, T.c_Tree, T.n_Tree_entries, rfl, d, od, rfl, .inl ⟨kvs, upd_same, fun D hD => ?_⟩⟩
    have nDd : D ≠ d := fun e => by rw [e, upd_same] at hD; cases hD
    refine lc_it walk_keys (fun i H' => Same (upd H d (.frz od (.dK kvs))) H' ∧ ∃ acc, H' D = some (.lst acc) ∧ acc.length ≤ i) ⟨same_new hD _, [], upd_same, Nat.le_refl _⟩ (fun i H' _ h => h.1 _ _ upd_same) ?_ ?_
    · rintro i x H1 H2 hi ⟨s1, acc, ha, hal⟩ ⟨rfl, kk, vv, hk, rfl⟩
      obtain ⟨q2, rfl, e, he⟩ := ent_mem hT.en hk
      have hT2 : TrR K H2 p dx d kvs es := ⟨s1 _ _ h1, .inr ⟨od, s1 _ _ upd_same⟩, ent_fk (fun c xs z => s1 _ _ (fk0 c xs z)) hT.en⟩
      have hkl : i < es.length := lt_of_get he
      refine ⟨rfl, _, rfl, p, dx, _, rfl, hT2.ob, rfl, _, rfl, p, dx, d, kvs, es, q2, rfl, hT2, _, rfl, ?_⟩
      refine it2 (fun _ => ⟨_, ha, szl (by omega), Same.mut s1 hD, _, upd_same, by simp; omega⟩) fun _ => ⟨s1, acc, ha, by omega⟩
    · rintro H1 ⟨s1, acc, ha, hal⟩
      have hd1 : H1 d = some (.frz od (.dK kvs)) := s1 _ _ upd_same
      refine ⟨hd1, ?_⟩
      have hel := ent_len hT.en
      have sm : Same H (upd H1 d (.dK kvs)) := fun c o e => by
        by_cases z : c = d
        · subst z
          rw [upd_same, ← e, hT.dc]
        · rw [upd_ne z]
          exact s1 _ _ (by rw [upd_ne z]; exact e)
      exact ⟨D, _, rfl, .inl (SqL.of (by rw [upd_ne nDd]; exact ha)), _, _, rfl, rfl, _, rfl, itF (decide_eq_false (by omega)) (k _ sm)⟩
theorem ok_is_text_code (T : Tp w K mg φ) : FnOk P w K mg base CX0 1 (He.ga K "is_text_code") (φ ("is_text_code", none)) P_is_text_code (fun vs H Q _ => ∃ c : Nat, vs = [.int (c : Nat)] ∧ Q (.bl (tcB c)) H) := by
  refine okF T.F_is_text_code sc_is_text_code (fun vs H Q E h => ?_) (fun cdv A outer s H vs Q E hr h => ?_)
  · obtain ⟨c, rfl, _⟩ := h
    rfl
  obtain ⟨c, rfl, k⟩ := h
  refine ⟨_, (pss_one (ps_ret (pe_or (pe_cmpR op_eq (pv 0) pe_int (nomark _)) (pe_one (pe_and (pe_chain op_le op_le pe_int (pv 0) pe_int) (pe_one (pe_cmpR op_ne (pv 0) pe_int (nomark _)))))))), ?_⟩
  unfold tcB at k
  refine ⟨_, rfl, rfl, _, rfl, ?_⟩
  by_cases h1 : c = 10
  · rw [decide_eq_true h1, Bool.true_or] at k
    exact itT (decide_eq_true (by rw [h1] <;> rfl)) k
  · rw [decide_eq_false h1, Bool.false_or] at k
    refine itF (decide_eq_false fun e => h1 (by have := V.int.inj e; omega)) ⟨_, rfl, _, _, rfl, rfl, _, rfl, ?_⟩
    by_cases h2 : 32 ≤ c
    · rw [decide_eq_true h2, Bool.true_and] at k
      refine itT (decide_eq_true (by omega)) ⟨_, _, rfl, rfl, _, rfl, ?_⟩
      by_cases h3 : c ≤ 126
      · rw [decide_eq_true h3, Bool.true_and] at k
        refine itT (decide_eq_true (by omega)) ⟨_, rfl, rfl, ?_⟩
        have e : decide (V.int (c : Nat) = V.int 37) = decide (c = 37) := by
          by_cases h4 : c = 37
          · rw [h4]; rfl
          · rw [decide_eq_false h4, decide_eq_false fun z => h4 (by have := V.int.inj z; omega)]
        show Q (.bl (!decide (V.int (c : Nat) = V.int 37))) H
        rw [e]
        exact k
      · rw [decide_eq_false h3, Bool.false_and] at k
        exact itF (decide_eq_false (by omega)) k
    · rw [decide_eq_false h2, Bool.false_and] at k
      exact itF (decide_eq_false (by omega)) ⟨_, rfl, itF rfl k⟩
theorem ok_is_text (T : Tp w K mg φ) : FnOk P w K mg base CX0 2 (He.ga K "is_text") (φ ("is_text", none)) P_is_text (fun vs H Q _ => ∃ z : Str, vs = [.str z] ∧ z.length ≤ 1000 ∧ ∀ H', Same H H' → Q (.bl (txtB (tl z))) H') := by
  have G_is_text_code := ok_is_text_code (P := P) (base := base) T
  refine okF T.F_is_text sc_is_text (fun vs H Q E h => ?_) (fun cdv A outer s H vs Q E hr h => ?_)
  · obtain ⟨z, rfl, _⟩ := h
    rfl
  obtain ⟨z, rfl, hz, k⟩ := h
  have nd := sc_is_text.nd
  refine ⟨_, (pss_one (ps_ret (pe_callB (cr_all rfl) (by rfl) T.z_all (by decide +kernel) (pa_cons (pe_lc (own := [("char", 1)]) (g := gName 1) rfl nd (pi_str (pv 0)) (blkOk_by (own := [("char", 1)]) (N := N_is_text) (sc := defScope s_is_text) (by decide +kernel)) (fun _ _ _ _ _ => pg_name (i := 1) nd rfl (Or.inl rfl)) (fun _ _ _ _ _ => pts_nil) (fun _ _ _ _ _ => (pe_call G_is_text_code (hr.mono (by omega)) rfl T.g_is_text_code T.k_is_text_code T.b_is_text_code .nil pass0 (pa_cons (pe_callB call_ord (by rfl) T.z_ord (by decide +kernel) (pa_cons (pv 1) pa_nil)) pa_nil)))) pa_nil)))), ?_⟩
  dsimp only [tNext, tRet, tCB, tCons, tNil]
  refine lc_strb (vs := [1]) (i := 0) (j := 1) (z := z) (σ := [some (.str z), none]) tcB rfl (by omega) (fun _ => rfl) ?_ ?_
  · intro c hc H2 Q2 q
    exact ⟨_, rfl, _, rfl, rfl, c, rfl, q⟩
  · intro D H' hD s1 d1
    refine ⟨D, _, rfl, SqL.of d1, ?_⟩
    rw [List.all_map]
    exact k H' s1
theorem ok_is_content (T : Tp w K mg φ) : FnOk P w K mg base CX0 3 (He.ga K "is_content") (φ ("is_content", none)) P_is_content (fun vs H Q _ => ∃ z : Str, vs = [.str z] ∧ z.length ≤ 400 ∧ txtB (tl z) = true ∧ ∀ H', Same H H' → Q (.bl true) H') := by
  have G_is_text := ok_is_text (P := P) (base := base) T
  refine okF T.F_is_content sc_is_content (fun vs H Q E h => ?_) (fun cdv A outer s H vs Q E hr h => ?_)
  · obtain ⟨z, rfl, _⟩ := h
    rfl
  obtain ⟨z, rfl, hz, ht, k⟩ := h
  refine ⟨_, (pss_one (ps_ret (pe_and (pe_cmpR op_le (pe_callB call_len_str (by rfl) T.z_len (by decide +kernel) (pa_cons (pv 0) pa_nil)) (pe_gint T.i_CONTENT_LIMIT) (nomark _)) (pe_one (pe_call G_is_text (hr.mono (by omega)) rfl T.g_is_text T.k_is_text T.b_is_text .nil pass0 (pa_cons (pv 0) pa_nil)))))), ?_⟩
  refine ⟨_, rfl, z, rfl, sz (by omega), _, _, rfl, rfl, _, rfl, itT (decide_eq_true (by omega)) ⟨_, rfl, z, rfl, by omega, fun H' s1 => ?_⟩⟩
  rw [ht]
  exact k H' s1
def spTInit (K : PySem.W.Frag) : Sp := fun vs H Q _ => ∃ (p dx : Addr), vs = [.ref p] ∧ H p = some (.ins (He.ga K "Tree") dx []) ∧ ∀ H' d, H d = none → TrW K H' p dx d [] [] → But p H H' → Q .non H'
theorem ok_Tree___init__ (T : Tp w K mg φ) : FnOk P w K mg base CX0 1 (He.ma K (He.ga K "Tree") "__init__") (φ ("Tree", some "__init__")) P_Tree___init__ (spTInit K) := by
  refine okF T.F_Tree___init__ sc_Tree___init__ (fun vs H Q E h => ?_) (fun cdv A outer s H vs Q E hr h => ?_)
  · obtain ⟨p, dx, rfl, _⟩ := h
    rfl
  obtain ⟨p, dx, rfl, hp, k⟩ := h
  refine ⟨_, (pss_one (ps_fld (pv 0) pe_dnewK rfl)), ?_⟩
  intro d hd
  have npd : p ≠ d := ne_of_none hp hd
  refine ⟨_, rfl, p, _, dx, _, rfl, by rw [upd_ne npd]; exact hp, T.c_Tree, T.n_Tree_entries, by show 0 < 1000; decide, ?_⟩
  refine k _ d hd ⟨upd_same, by rw [upd_ne npd.symm, upd_same], trivial⟩ fun c o hc hcp => ?_
  rw [upd_ne hcp, upd_ne (ne_of_none hc hd)]
  exact hc
/-- an entry is put -/
def RetPut (K : PySem.W.Frag) (H : Hp) (Q : VK) (p dx d : Addr) (es : List (Str × Ent)) (q : Str) (e : Ent) : Prop := ∀ H' kvs', But d H H' → TrW K H' p dx d kvs' (putE es q e) → Q .non H'
theorem tr_put {H : Hp} {p dx d t : Addr} {kvs : List (Key × V)} {es : List (Str × Ent)} {q : Str} {e : Ent} (hT : TrW K H p dx d kvs es) (ht : H t = some (.tup (entT e))) : TrW K (upd H d (.dK (putK kvs (Sum.inr q : Key) (.ref t)))) p dx d (putK kvs (Sum.inr q : Key) (.ref t)) (putE es q e) := by
  refine ⟨?_, upd_same, ent_fk ?_ (ent_put ht hT.en)⟩
  · rw [upd_ne (ne_of hT.ob hT.dc (by intro z; cases z))]
    exact hT.ob
  · intro c xs h
    rw [upd_ne (ne_of h hT.dc (by intro z; cases z))]
    exact h
theorem ok_Tree_write (T : Tp w K mg φ) : FnOk P w K mg base CX0 4 (He.ma K (He.ga K "Tree") "write") (φ ("Tree", some "write")) P_Tree_write
    (fun vs H Q _ => ∃ (p dx d : Addr) (kvs : List (Key × V)) (es : List (Str × Ent)) (q t : Str), vs = [.ref p, .str q, .str t, .str "person"] ∧ TrW K H p dx d kvs es ∧ es.length ≤ 50 ∧ okW q ∧ pathB q = true ∧ t.length ≤ 400 ∧ txtB (tl t) = true ∧ RetPut K H Q p dx d es q (.file t "person")) := by
  have G_is_path := ok_is_path (P := P) (base := base) T
  have G_is_content := ok_is_content (P := P) (base := base) T
  have G_Tree_check_room := ok_Tree_check_room (P := P) (base := base) T
  refine okF T.F_Tree_write sc_Tree_write (fun vs H Q E h => ?_) (fun cdv A outer s H vs Q E hr h => ?_)
  · obtain ⟨p, dx, d, kvs, es, q, t, rfl, _⟩ := h
    rfl
  obtain ⟨p, dx, d, kvs, es, q, t, rfl, hT, hle, hq, hqp, ht4, htx, k⟩ := h
  have hu := hu_of hr
  refine ⟨_, (pss_cons (ps_if (pt_not (pt_val (pe_call G_is_path (hr.mono (by omega)) rfl T.g_is_path T.k_is_path T.b_is_path .nil pass0 (pa_cons (pv 1) pa_nil)))) 
      (pss_one ps_never) pss_nil)
    (pss_cons (ps_if (pt_not (pt_val (pe_call G_is_content (hr.mono (by omega)) rfl T.g_is_content T.k_is_content T.b_is_content .nil pass0 (pa_cons (pv 2) pa_nil)))) 
      (pss_one ps_never) pss_nil)
    (pss_cons (ps_if (pt_cmpR op_eq (pv 3) pe_str (nomark _)) 
      (pss_one (ps_expr (pe_meth (pv 0) T.c_Tree T.m_Tree_check_room G_Tree_check_room (hr.mono (by omega)) T.b_Tree_check_room .nil pass0 (pa_cons (pv 1) pa_nil)))) pss_nil)
    (pss_one (ps_dput hu (pe_fld (pv 0) rfl) (pv 1) (pe_tup (pa_cons pe_str (pa_cons (pv 2) (pa_cons (pv 3) pa_nil)))) rfl))))), ?_⟩
  refine ⟨_, rfl, q, rfl, hq, fun H1 s1 => ⟨_, rfl, itF (nb hqp) ?_⟩⟩
  refine ⟨_, rfl, t, rfl, ht4, htx, fun H2 s2 => ⟨_, rfl, itF rfl ?_⟩⟩
  have hT2 := hT.same (s1.trans s2)
  refine ⟨_, rfl, rfl, _, rfl, itT (by decide +kernel) ?_⟩
  refine ⟨_, rfl, p, dx, _, rfl, hT2.ob, rfl, _, rfl, p, dx, d, kvs, es, q, rfl, hT2, hle, fun H3 s3 => ?_⟩
  refine ⟨_, rfl, _, rfl, by show 3 ≤ sizeLine; decide, fun t0 ht0 => ?_⟩
  have s4 := same_new ht0 (.tup [.str "file", .str t, .str "person"])
  have hT4 := hT2.same (s3.trans s4)
  have hkl := ent_len hT.en
  refine ⟨_, rfl, p, _, dx, _, _, rfl, hT4.ob, T.c_Tree, T.n_Tree_entries, rfl, _, rfl, d, _, rfl, DPut.k (k := Sum.inr q) hT4.dc (szl (by omega)), ?_⟩
  refine k _ _ (fun c o hc hcd => ?_) (tr_put (e := .file t "person") hT4 upd_same)
  rw [upd_ne hcd]
  exact s4 _ _ (s3 _ _ (s2 _ _ (s1 _ _ hc)))
theorem ok_Tree_link (T : Tp w K mg φ) : FnOk P w K mg base CX0 4 (He.ma K (He.ga K "Tree") "link") (φ ("Tree", some "link")) P_Tree_link
    (fun vs H Q _ => ∃ (p dx d : Addr) (kvs : List (Key × V)) (es : List (Str × Ent)) (q t : Str), vs = [.ref p, .str q, .str t] ∧ TrW K H p dx d kvs es ∧ es.length ≤ 50 ∧ okW q ∧ pathB q = true ∧ okW t ∧ pathB t = true ∧ RetPut K H Q p dx d es q (.link t)) := by
  have G_is_path := ok_is_path (P := P) (base := base) T
  have G_Tree_check_room := ok_Tree_check_room (P := P) (base := base) T
  refine okF T.F_Tree_link sc_Tree_link (fun vs H Q E h => ?_) (fun cdv A outer s H vs Q E hr h => ?_)
  · obtain ⟨p, dx, d, kvs, es, q, t, rfl, _⟩ := h
    rfl
  obtain ⟨p, dx, d, kvs, es, q, t, rfl, hT, hle, hq, hqp, ht, htp, k⟩ := h
  have hu := hu_of hr
  refine ⟨_, (pss_cons (ps_if (pt_not (pt_val (pe_call G_is_path (hr.mono (by omega)) rfl T.g_is_path T.k_is_path T.b_is_path .nil pass0 (pa_cons (pv 1) pa_nil)))) 
      (pss_one ps_never) pss_nil)
    (pss_cons (ps_if (pt_not (pt_val (pe_call G_is_path (hr.mono (by omega)) rfl T.g_is_path T.k_is_path T.b_is_path .nil pass0 (pa_cons (pv 2) pa_nil)))) 
      (pss_one ps_never) pss_nil)
    (pss_cons (ps_expr (pe_meth (pv 0) T.c_Tree T.m_Tree_check_room G_Tree_check_room (hr.mono (by omega)) T.b_Tree_check_room .nil pass0 (pa_cons (pv 1) pa_nil)))
    (pss_one (ps_dput hu (pe_fld (pv 0) rfl) (pv 1) (pe_tup (pa_cons pe_str (pa_cons (pv 2) pa_nil))) rfl))))), ?_⟩
  refine ⟨_, rfl, q, rfl, hq, fun H1 s1 => ⟨_, rfl, itF (nb hqp) ?_⟩⟩
  refine ⟨_, rfl, t, rfl, ht, fun H2 s2 => ⟨_, rfl, itF (nb htp) ?_⟩⟩
  have hT2 := hT.same (s1.trans s2)
  refine ⟨_, rfl, p, dx, _, rfl, hT2.ob, rfl, _, rfl, p, dx, d, kvs, es, q, rfl, hT2, hle, fun H3 s3 => ?_⟩
  refine ⟨_, rfl, by show 2 ≤ sizeLine; decide, fun t0 ht0 => ?_⟩
  have s4 := same_new ht0 (.tup [.str "link", .str t])
  have hT4 := hT2.same (s3.trans s4)
  have hkl := ent_len hT.en
  refine ⟨_, rfl, p, _, dx, _, _, rfl, hT4.ob, T.c_Tree, T.n_Tree_entries, rfl, _, rfl, d, _, rfl, DPut.k (k := Sum.inr q) hT4.dc (szl (by omega)), ?_⟩
  refine k _ _ (fun c o hc hcd => ?_) (tr_put (e := .link t) hT4 upd_same)
  rw [upd_ne hcd]
  exact s4 _ _ (s3 _ _ (s2 _ _ (s1 _ _ hc)))
theorem ok_Tree_twin (T : Tp w K mg φ) : FnOk P w K mg base CX0 3 (He.ma K (He.ga K "Tree") "twin") (φ ("Tree", some "twin")) P_Tree_twin
    (fun vs H Q _ => ∃ (p dx d : Addr) (kvs : List (Key × V)) (es : List (Str × Ent)), vs = [.ref p] ∧ TrW K H p dx d kvs es ∧ ∀ H' r dx2 d2, Same H H' → TrW K H' r dx2 d2 kvs es → Q (.ref r) H') := by
  have G_Tree___init__ := ok_Tree___init__ (P := P) (base := base) T
  refine okF T.F_Tree_twin sc_Tree_twin (fun vs H Q E h => ?_) (fun cdv A outer s H vs Q E hr h => ?_)
  · obtain ⟨p, dx, d, kvs, es, rfl, _⟩ := h
    rfl
  obtain ⟨p, dx, d, kvs, es, rfl, hT, k⟩ := h
  have nd := sc_Tree_twin.nd
  refine ⟨_, (pss_cons (ps_set (i := 1) nd rfl (Or.inl rfl) (pe_make0 T.mk_Tree G_Tree___init__ (hr.mono (by omega)) rfl T.g_Tree T.b_Tree___init__ .nil pass0))
    (pss_cons (ps_fld (pv 1) (pe_callTy call_dictD (by rfl) T.z_dict (by decide +kernel) (pa_cons (pe_fld (pv 0) rfl) pa_nil)) rfl)
    (pss_one (ps_ret (pv 1))))), ?_⟩
  intro r dr nr ndr nedr
  refine ⟨r, dr, rfl, upd_same, fun H1 d1 hd1 hT1 hB1 => ⟨rfl, ?_⟩⟩
  have s1 : Same H H1 := fun c o hc => hB1 _ _ (by rw [upd_ne (ne_of_none hc nr), upd_ne (ne_of_none hc ndr)]; exact hc) (ne_of_none hc nr)
  have hTs := hT.same s1
  refine ⟨_, rfl, p, _, dx, _, _, rfl, hTs.ob, T.c_Tree, T.n_Tree_entries, rfl, d, kvs, rfl, .inl hTs.dc, fun d2 hd2 => ?_⟩
  have s2 := same_new hd2 (.dK kvs)
  have nr2 : r ≠ d2 := ne_of_none hT1.ob hd2
  refine ⟨_, rfl, r, _, dr, _, rfl, s2 _ _ hT1.ob, T.c_Tree, T.n_Tree_entries, by show 1 < 1000; decide, ?_⟩
  have s3 : Same H (upd (upd H1 d2 (.dK kvs)) r (.ins (He.ga K "Tree") dr [("entries", .ref d2)])) := Same.mut (s1.trans s2) nr
  exact ⟨_, rfl, k _ r dr d2 s3 ⟨upd_same, by rw [upd_ne nr2.symm, upd_same], ent_fk (FK.same s3).t hT.en⟩⟩
def spRText (K : PySem.W.Frag) : Sp := fun vs H Q _ => ∃ (p dx d : Addr) (kvs : List (Key × V)) (es : List (Str × Ent)) (q r t : Str), vs = [.ref p, .str q] ∧ TrR K H p dx d kvs es ∧ rslv es 8 q = some r ∧ look es r = some (.file t "person") ∧ Q (.str t) H
theorem ok_recipe_text (T : Tp w K mg φ) : FnOk P w K mg base CX0 3 (He.ga K "recipe_text") (φ ("recipe_text", none)) P_recipe_text (spRText K) := by
  have G_Tree_resolve := ok_Tree_resolve (P := P) (base := base) T
  have G_Tree_writer := ok_Tree_writer (P := P) (base := base) T
  have G_Tree_read := ok_Tree_read (P := P) (base := base) T
  refine okF T.F_recipe_text sc_recipe_text (fun vs H Q E h => ?_) (fun cdv A outer s H vs Q E hr h => ?_)
  · obtain ⟨p, dx, d, kvs, es, q, r, t, rfl, _⟩ := h
    rfl
  obtain ⟨p, dx, d, kvs, es, q, r, t, rfl, hT, h1, h2, k⟩ := h
  have nd := sc_recipe_text.nd
  refine ⟨_, (pss_cons (ps_set (i := 2) nd rfl (Or.inl rfl) (pe_meth (pv 0) T.c_Tree T.m_Tree_resolve G_Tree_resolve (hr.mono (by omega)) T.b_Tree_resolve .nil pass0 (pa_cons (pv 1) pa_nil)))
    (pss_cons (ps_if (PW.pt (pw_or (pt_cmpR op_isN (pv 2) pe_non (nomark _)) (pw_or1 (pt_cmpR op_ne (pe_meth (pv 0) T.c_Tree T.m_Tree_writer G_Tree_writer (hr.mono (by omega)) T.b_Tree_writer .nil pass0 (pa_cons (pv 2) pa_nil)) pe_str (nomark _))))) 
      (pss_one (ps_ret pe_non)) pss_nil)
    (pss_one (ps_ret (pe_meth (pv 0) T.c_Tree T.m_Tree_read G_Tree_read (hr.mono (by omega)) T.b_Tree_read .nil pass0 (pa_cons (pv 2) pa_nil)))))), ?_⟩
  refine ⟨_, rfl, p, dx, _, rfl, hT.ob, rfl, _, rfl, p, dx, d, kvs, es, q, rfl, hT, ?_⟩
  rw [h1]
  refine ⟨_, rfl, rfl, _, rfl, itF rfl ⟨_, rfl, p, dx, _, rfl, hT.ob, rfl, _, rfl, p, dx, d, kvs, es, r, rfl, hT, ?_⟩⟩
  rw [h2]
  refine ⟨rfl, _, rfl, itF kperson ⟨_, rfl, p, dx, _, rfl, hT.ob, rfl, _, rfl, p, dx, d, kvs, es, r, rfl, hT, ?_⟩⟩
  rw [h2]
  exact k
end
end Ky

/-! Recipes: rules, books, their heaps; the small defs. -/
namespace Ky
open PySem PySem.Spec PyProof.Rows L2 TL
theorem Tp.g_is_pattern_paths {w : World} {K : PySem.W.Frag} {mg : Str → Option Value} {φ : Str × Option Str → FuncData} (T : Tp w K mg φ) : mg "is_pattern_paths" = some (.ref (He.ga K "is_pattern")) := by
  have h := T.more
  unfold ex at h
  have h1 := of_decide_eq_true (Bool.and_eq_true_iff.mp h).1
  rw [← h1]
  exact T.g_is_pattern_paths_
structure RuD where
  outs : List Str
  ins : List Str
  sealed : Bool
  body : List PyData
structure BkSt where
  ss : List (Str × Str)
  rs : List RuD
  fs : List Str
def ruF (to ti : Addr) (b : Bool) (vb : V) : List (Str × V) := [("outputs", .ref to), ("inputs", .ref ti), ("sealed", .bl b), ("body", vb)]
/-- a rule stands at r -/
def RuAt (K : PySem.W.Frag) (H : Hp) (r : V) (rd : RuD) : Prop := ∃ p dx to ti vb, r = .ref p ∧ H p = some (.ins (He.ga K "Rule") dx (ruF to ti rd.sealed vb)) ∧ H to = some (.tup (rd.outs.map V.str)) ∧ H ti = some (.tup (rd.ins.map V.str)) ∧ Dp K H vb (.tuple rd.body) ∧ GdA 30 rd.body
def RusAt (K : PySem.W.Frag) (H : Hp) : List V → List RuD → Prop
  | [], [] => True
  | v :: vs, r :: rs => RuAt K H v r ∧ RusAt K H vs rs
  | _, _ => False
/-- not a dict, not a list -/
def NL : HO → Prop
  | .lst _ => False
  | .dK _ => False
  | _ => True
def KI (H H' : Hp) : Prop := ∀ c o, H c = some o → NL o → H' c = some o
theorem KI.same {H H' : Hp} (e : Same H H') : KI H H' := fun c o h _ => e c o h
theorem KI.trans {H H1 H2 : Hp} (a : KI H H1) (b : KI H1 H2) : KI H H2 := fun c o h n => b c o (a c o h n) n
theorem KI.fk {H H' : Hp} (a : KI H H') : FK H H' := ⟨fun p xs h => a _ _ h trivial, fun p o u h => a _ _ h trivial⟩
theorem ruAt_ki {K : PySem.W.Frag} {H H' : Hp} {r : V} {rd : RuD} (e : KI H H') (h : RuAt K H r rd) : RuAt K H' r rd := by
  obtain ⟨p, dx, to, ti, vb, rfl, h1, h2, h3, h4, h5⟩ := h
  exact ⟨p, dx, to, ti, vb, rfl, e _ _ h1 trivial, e _ _ h2 trivial, e _ _ h3 trivial, e.fk.dp (Gd.tuple h5).tup h4, h5⟩
theorem rusAt_ki {K : PySem.W.Frag} {H H' : Hp} (e : KI H H') : ∀ {vs : List V} {rs : List RuD}, RusAt K H vs rs → RusAt K H' vs rs
  | [], [], _ => trivial
  | _ :: _, _ :: _, ⟨h1, h2⟩ => ⟨ruAt_ki e h1, rusAt_ki e h2⟩
theorem rusAt_len {K : PySem.W.Frag} {H : Hp} : ∀ {vs : List V} {rs : List RuD}, RusAt K H vs rs → vs.length = rs.length
  | [], [], _ => rfl
  | _ :: _, _ :: _, ⟨_, h2⟩ => by rw [List.length_cons, List.length_cons, rusAt_len h2]
theorem rusAt_snoc {K : PySem.W.Frag} {H : Hp} {v : V} {r : RuD} (h : RuAt K H v r) : ∀ {vs : List V} {rs : List RuD}, RusAt K H vs rs → RusAt K H (vs ++ [v]) (rs ++ [r])
  | [], [], _ => ⟨h, trivial⟩
  | _ :: _, _ :: _, ⟨h1, h2⟩ => ⟨h1, rusAt_snoc h h2⟩
theorem rusAt_get {K : PySem.W.Frag} {H : Hp} {i : Nat} {r : RuD} : ∀ {vs : List V} {rs : List RuD} {i : Nat}, RusAt K H vs rs → rs[i]? = some r → ∃ v, vs[i]? = some v ∧ RuAt K H v r
  | [], [], i, _, h => by simp at h
  | v :: vs, r' :: rs, 0, ⟨h1, _⟩, h => by
    have e : r' = r := by simpa using h
    subst e
    exact ⟨v, rfl, h1⟩
  | v :: vs, r' :: rs, i + 1, ⟨_, h2⟩, h => by
    obtain ⟨u, e1, e2⟩ := rusAt_get (i := i) (H := H) h2 (by simpa using h)
    exact ⟨u, by simpa using e1, e2⟩
theorem rusAt_mem {K : PySem.W.Frag} {H : Hp} {v : V} : ∀ {vs : List V} {rs : List RuD}, RusAt K H vs rs → v ∈ vs → ∃ r ∈ rs, RuAt K H v r
  | [], [], _, h => by simp at h
  | u :: vs, r' :: rs, ⟨h1, h2⟩, h => by
    rcases List.mem_cons.mp h with rfl | h
    · exact ⟨r', List.mem_cons_self, h1⟩
    · obtain ⟨r, m, a⟩ := rusAt_mem h2 h
      exact ⟨r, List.mem_cons_of_mem _ m, a⟩
def setE (kv : Str × Str) : Key × V := ((Sum.inr kv.1 : Key), .str kv.2)
def bkF (se rl fl : Addr) : List (Str × V) := [("settings", .ref se), ("rules", .ref rl), ("files", .ref fl)]
/-- a book stands at b -/
structure BkAt (K : PySem.W.Frag) (H : Hp) (b bx se rl fl : Addr) (st : BkSt) : Prop where
  ob : H b = some (.ins (He.ga K "Book") bx (bkF se rl fl))
  hs : H se = some (.dK (st.ss.map setE))
  hr : ∃ vs, H rl = some (.lst vs) ∧ RusAt K H vs st.rs
  hf : H fl = some (.lst (st.fs.map V.str))
  ne : rl ≠ fl
structure BA where
  p : Addr
  px : Addr
  t : Addr
  tx : Addr
  d : Addr
  b : Addr
  bx : Addr
  se : Addr
  rl : Addr
  fl : Addr
/-- what the reader of a book leans on -/
structure BCx (K : PySem.W.Frag) (H : Hp) (B : BA) (kvs : List (Key × V)) (es : List (Str × Ent)) (st : BkSt) : Prop where
  ob : H B.p = some (.ins (He.ga K "BookReader") B.px [("tree", .ref B.t), ("book", .ref B.b)])
  tr : TrW K H B.t B.tx B.d kvs es
  bk : BkAt K H B.b B.bx B.se B.rl B.fl st
  nd : B.d ≠ B.se
def But3 (B : BA) (H H' : Hp) : Prop := ∀ c o, H c = some o → c ≠ B.se → c ≠ B.rl → c ≠ B.fl → H' c = some o
theorem But3.same {B : BA} {H H' : Hp} (e : Same H H') : But3 B H H' := fun c o h _ _ _ => e c o h
theorem But3.trans {B : BA} {H H1 H2 : Hp} (a : But3 B H H1) (b : But3 B H1 H2) : But3 B H H2 := fun c o h x y z => b c o (a c o h x y z) x y z
section
variable {K : PySem.W.Frag} {H H' : Hp} {B : BA} {kvs : List (Key × V)} {es : List (Str × Ent)} {st : BkSt}
theorem BCx.ki (h : BCx K H B kvs es st) (e : But3 B H H') : KI H H' := fun c o hc n => by
  obtain ⟨vs, hr, _⟩ := h.bk.hr
  refine e c o hc (fun z => ?_) (fun z => ?_) fun z => ?_
  · rw [z, h.bk.hs] at hc; cases hc; exact n
  · rw [z, hr] at hc; cases hc; exact n
  · rw [z, h.bk.hf] at hc; cases hc; exact n
theorem BkAt.same {b bx se rl fl : Addr} (h : BkAt K H b bx se rl fl st) (e : Same H H') : BkAt K H' b bx se rl fl st := by
  obtain ⟨vs, hr, hu⟩ := h.hr
  exact ⟨e _ _ h.ob, e _ _ h.hs, ⟨vs, e _ _ hr, rusAt_ki (KI.same e) hu⟩, e _ _ h.hf, h.ne⟩
theorem BCx.same (h : BCx K H B kvs es st) (e : Same H H') : BCx K H' B kvs es st := ⟨e _ _ h.ob, h.tr.same e, h.bk.same e, h.nd⟩
theorem BCx.nep {C dx c l : Addr} {fs : List (Str × V)} {o : HO} (h : H c = some (.ins C dx fs)) (hl : H l = some o) (n : ¬ NL o) : c ≠ l := fun e => by
  rw [e, hl] at h
  cases h
  exact n trivial
theorem upd_but {B : BA} {H : Hp} {c : Addr} (o : HO) (h : c = B.se ∨ c = B.rl ∨ c = B.fl) : But3 B H (upd H c o) := fun a u e x y z => by
  rw [upd_ne]
  · exact e
  · intro q
    rcases h with h | h | h
    · exact x (q.trans h)
    · exact y (q.trans h)
    · exact z (q.trans h)
theorem TrW.ki {p dx d : Addr} (h : TrW K H p dx d kvs es) (e : KI H H') (hd : H' d = H d) : TrW K H' p dx d kvs es := ⟨e _ _ h.ob trivial, hd.trans h.dc, ent_fk e.fk.t h.en⟩
/-- a setting is put -/
theorem BCx.set (h : BCx K H B kvs es st) (n v : Str) : BCx K (upd H B.se (.dK ((st.ss ++ [(n, v)]).map setE))) B kvs es { st with ss := st.ss ++ [(n, v)] } := by
  have hB : But3 B H (upd H B.se (.dK ((st.ss ++ [(n, v)]).map setE))) := upd_but _ (.inl rfl)
  have e := h.ki hB
  obtain ⟨vs, hr, hu⟩ := h.bk.hr
  refine ⟨e _ _ h.ob trivial, h.tr.ki e (by rw [upd_ne h.nd]), ⟨e _ _ h.bk.ob trivial, upd_same, ⟨vs, ?_, rusAt_ki e hu⟩, ?_, h.bk.ne⟩, h.nd⟩
  · rw [upd_ne (ne_of hr h.bk.hs (by intro q; cases q))]
    exact hr
  · rw [upd_ne (ne_of h.bk.hf h.bk.hs (by intro q; cases q))]
    exact h.bk.hf
/-- a rule is put -/
theorem BCx.rule (h : BCx K H B kvs es st) {vs : List V} {v : V} {r : RuD} (hr : H B.rl = some (.lst vs)) (hu : RusAt K H vs st.rs) (hv : RuAt K H v r) : BCx K (upd H B.rl (.lst (vs ++ [v]))) B kvs es { st with rs := st.rs ++ [r] } := by
  have hB : But3 B H (upd H B.rl (.lst (vs ++ [v]))) := upd_but _ (.inr (.inl rfl))
  have e := h.ki hB
  refine ⟨e _ _ h.ob trivial, h.tr.ki e (by rw [upd_ne (ne_of h.tr.dc hr (by intro q; cases q))]), ⟨e _ _ h.bk.ob trivial, ?_, ⟨_, upd_same, rusAt_snoc (ruAt_ki e hv) (rusAt_ki e hu)⟩, ?_, h.bk.ne⟩, h.nd⟩
  · rw [upd_ne (ne_of h.bk.hs hr (by intro q; cases q))]
    exact h.bk.hs
  · rw [upd_ne h.bk.ne.symm]
    exact h.bk.hf
/-- a file is put -/
theorem BCx.file (h : BCx K H B kvs es st) (q : Str) : BCx K (upd H B.fl (.lst ((st.fs ++ [q]).map V.str))) B kvs es { st with fs := st.fs ++ [q] } := by
  have hB : But3 B H (upd H B.fl (.lst ((st.fs ++ [q]).map V.str))) := upd_but _ (.inr (.inr rfl))
  have e := h.ki hB
  obtain ⟨vs, hr, hu⟩ := h.bk.hr
  refine ⟨e _ _ h.ob trivial, h.tr.ki e (by rw [upd_ne (ne_of h.tr.dc h.bk.hf (by intro q; cases q))]), ⟨e _ _ h.bk.ob trivial, ?_, ⟨vs, ?_, rusAt_ki e hu⟩, upd_same, h.bk.ne⟩, h.nd⟩
  · rw [upd_ne (ne_of h.bk.hs h.bk.hf (by intro q; cases q))]
    exact h.bk.hs
  · rw [upd_ne h.bk.ne]
    exact hr
end
section
variable {P : Program} {w : World} {K : PySem.W.Frag} {mg : Str → Option Value} {base : Heap} {φ : Str × Option Str → FuncData}
def spRuI (K : PySem.W.Frag) : Sp := fun vs H Q _ => ∃ (p dx to ti : Addr) (b : Bool) (vb : V), vs = [.ref p, .ref to, .ref ti, .bl b, vb] ∧ H p = some (.ins (He.ga K "Rule") dx []) ∧ ∀ H', H' p = some (.ins (He.ga K "Rule") dx (ruF to ti b vb)) → But p H H' → Q .non H'
theorem ok_Rule___init__ (T : Tp w K mg φ) : FnOk P w K mg base CX0 1 (He.ma K (He.ga K "Rule") "__init__") (φ ("Rule", some "__init__")) P_Rule___init__ (spRuI K) := by
  refine okF T.F_Rule___init__ sc_Rule___init__ (fun vs H Q E h => ?_) (fun cdv A outer s H vs Q E hr h => ?_)
  · obtain ⟨p, dx, to, ti, b, vb, rfl, _⟩ := h
    rfl
  obtain ⟨p, dx, to, ti, b, vb, rfl, hp, k⟩ := h
  refine ⟨_, (pss_cons (ps_fld (pv 0) (pv 1) rfl)
    (pss_cons (ps_fld (pv 0) (pv 2) rfl)
    (pss_cons (ps_fld (pv 0) (pv 3) rfl)
    (pss_one (ps_fld (pv 0) (pv 4) rfl))))), ?_⟩
  refine ⟨_, rfl, _, rfl, p, _, dx, _, rfl, hp, T.c_Rule, T.n_Rule_outputs, by decide, ?_⟩
  refine ⟨_, rfl, _, rfl, p, _, dx, _, rfl, upd_same, T.c_Rule, T.n_Rule_inputs, by show 1 < 1000; decide, ?_⟩
  refine ⟨_, rfl, _, rfl, p, _, dx, _, rfl, upd_same, T.c_Rule, T.n_Rule_sealed, by show 2 < 1000; decide, ?_⟩
  refine ⟨_, rfl, _, rfl, p, _, dx, _, rfl, upd_same, T.c_Rule, T.n_Rule_body, by show 3 < 1000; decide, ?_⟩
  refine k _ upd_same fun c o hc hcp => ?_
  rw [upd_ne hcp, upd_ne hcp, upd_ne hcp, upd_ne hcp]
  exact hc
def spBkI (K : PySem.W.Frag) : Sp := fun vs H Q _ => ∃ (p dx : Addr), vs = [.ref p] ∧ H p = some (.ins (He.ga K "Book") dx []) ∧ ∀ H' se rl fl, H se = none → H rl = none → H fl = none → BkAt K H' p dx se rl fl ⟨[], [], []⟩ → But p H H' → Q .non H'
theorem ok_Book___init__ (T : Tp w K mg φ) : FnOk P w K mg base CX0 1 (He.ma K (He.ga K "Book") "__init__") (φ ("Book", some "__init__")) P_Book___init__ (spBkI K) := by
  refine okF T.F_Book___init__ sc_Book___init__ (fun vs H Q E h => ?_) (fun cdv A outer s H vs Q E hr h => ?_)
  · obtain ⟨p, dx, rfl, _⟩ := h
    rfl
  obtain ⟨p, dx, rfl, hp, k⟩ := h
  refine ⟨_, (pss_cons (ps_fld (pv 0) pe_dnewK rfl)
    (pss_cons (ps_fld (pv 0) (pe_lst pa_nil) rfl)
    (pss_one (ps_fld (pv 0) (pe_lst pa_nil) rfl)))), ?_⟩
  intro se hse
  have n1 : p ≠ se := ne_of_none hp hse
  refine ⟨_, rfl, p, _, dx, _, rfl, by rw [upd_ne n1]; exact hp, T.c_Book, T.n_Book_settings, by decide, ?_⟩
  refine ⟨Nat.zero_le _, fun rl hrl => ?_⟩
  have n2 : p ≠ rl := ne_of_none upd_same hrl
  have hrl1 : upd H se (.dK []) rl = none := by rw [upd_ne n2.symm] at hrl; exact hrl
  have n3 : se ≠ rl := ne_of_none upd_same hrl1
  have hrl2 : H rl = none := by rw [upd_ne n3.symm] at hrl1; exact hrl1
  refine ⟨_, rfl, p, _, dx, _, rfl, by rw [upd_ne n2]; exact upd_same, T.c_Book, T.n_Book_rules, by show 1 < 1000; decide, ?_⟩
  refine ⟨Nat.zero_le _, fun fl hfl => ?_⟩
  have n4 : p ≠ fl := ne_of_none upd_same hfl
  rw [upd_ne n4.symm] at hfl
  have n5 : rl ≠ fl := ne_of_none upd_same hfl
  rw [upd_ne n5.symm, upd_ne n4.symm] at hfl
  have n6 : se ≠ fl := ne_of_none upd_same hfl
  rw [upd_ne n6.symm] at hfl
  refine ⟨_, rfl, p, _, dx, _, rfl, by rw [upd_ne n4]; exact upd_same, T.c_Book, T.n_Book_files, by show 2 < 1000; decide, ?_⟩
  refine k _ se rl fl hse hrl2 hfl ⟨upd_same, ?_, ⟨[], ?_, trivial⟩, ?_, n5⟩ fun c o hc hcp => ?_
  · rw [upd_ne n1.symm, upd_ne n6, upd_ne n1.symm, upd_ne n3, upd_ne n1.symm, upd_same] <;> rfl
  · rw [upd_ne n2.symm, upd_ne n5, upd_ne n2.symm, upd_same]
  · rw [upd_ne n4.symm, upd_same] <;> rfl
  · rw [upd_ne hcp, upd_ne (ne_of_none hc hfl), upd_ne hcp, upd_ne (ne_of_none hc hrl2), upd_ne hcp, upd_ne (ne_of_none hc hse)]
    exact hc
def spOutB (K : PySem.W.Frag) : Sp := fun vs H Q _ => ∃ (B : BA) (kvs : List (Key × V)) (es : List (Str × Ent)) (st : BkSt) (q : Str), vs = [.ref B.p, .str q] ∧ BCx K H B kvs es st ∧ st.rs.length ≤ 100 ∧ (∀ rd ∈ st.rs, q ∉ rd.outs) ∧ ∀ H', Same H H' → Q (.bl false) H'
theorem ok_BookReader_is_output (T : Tp w K mg φ) : FnOk P w K mg base CX0 1 (He.ma K (He.ga K "BookReader") "is_output") (φ ("BookReader", some "is_output")) P_BookReader_is_output (spOutB K) := by
  refine okF T.F_BookReader_is_output sc_BookReader_is_output (fun vs H Q E h => ?_) (fun cdv A outer s H vs Q E hr h => ?_)
  · obtain ⟨B, kvs, es, st, q, rfl, _⟩ := h
    rfl
  obtain ⟨B, kvs, es, st, q, rfl, hX, hl, hno, k⟩ := h
  have nd := sc_BookReader_is_output.nd
  refine ⟨_, (pss_one (ps_ret (pe_callB (cr_any rfl) (by rfl) T.z_any (by decide +kernel) (pa_cons (pe_lc (own := [("rule", 2)]) (g := gName 2) rfl nd (pi_list (pe_fld (pe_fld (pv 0) rfl) rfl)) (blkOk_by (own := [("rule", 2)]) (N := N_BookReader_is_output) (sc := defScope s_BookReader_is_output) (by decide +kernel)) (fun _ _ _ _ _ => pg_name (i := 2) nd rfl (Or.inl rfl)) (fun _ _ _ _ _ => pts_nil) (fun _ _ _ _ _ => pe_cmpR (r := rIn K false) (tb := tFld K (tVar 2) "outputs") op_in_seq (pv 1) (pe_fld (pv 2) rfl) (by rfl))) pa_nil)))), ?_⟩
  obtain ⟨vs, hrl, hru⟩ := hX.bk.hr
  dsimp only [tNext, tRet, tCB, tCons, tNil]
  refine lc_lstb (K := K) (vs := [2]) (j := 2) (σ := [some (.ref B.p), some (.str q), none]) (fun v => false) (fun R z => ⟨_, rfl, B.p, _, B.px, _, _, rfl, hX.ob, T.c_BookReader, T.n_BookReader_book, rfl, B.b, _, B.bx, _, _, rfl, hX.bk.ob, T.c_Book, T.n_Book_rules, rfl, z⟩) (SqL.of hrl) (by have := rusAt_len hru; omega) (fun _ => rfl) ?_ ?_
  · intro v hv H2 Q2 s2 z
    obtain ⟨rd, hrd, p, dx, to, ti, vb, rfl, h1, h2, h3, h4, h5⟩ := rusAt_mem hru hv
    refine ⟨_, rfl, _, rfl, p, _, dx, _, _, rfl, s2 _ _ h1, T.c_Rule, T.n_Rule_outputs, rfl, to, _, rfl, .inr (.inl (.inl (s2 _ _ h2))), rfl, flat_strs _, ?_⟩
    rw [inV_str, decide_eq_false (hno rd hrd)]
    exact z H2 (Same.refl H2)
  · intro D H' hD s1 d1
    refine ⟨D, _, rfl, SqL.of d1, ?_⟩
    have e : ((vs.map fun _ => false).any id) = false := by
      rw [List.any_map]
      exact List.any_eq_false.mpr fun x _ => by simp
    rw [e]
    exact k H' s1
end
end Ky

/-! Recipes: outputs, inputs, settings. -/
namespace Ky
open PySem PySem.Spec PyProof.Rows L2 TL
/-- the next output of a rule, behind os -/
structure OutOk (st : BkSt) (pat : Bool) (os : List Str) (x : Str) : Prop where
  ok : okW x
  pa : pathB x = !pat
  pt : pattB x = pat
  ni : x ∉ os
  nr : pat = false → ∀ rd ∈ st.rs, x ∉ rd.outs
  nf : x ∉ st.fs
/-- an if that does not hold -/
theorem cutI {c : TT} {a rest : TS} {D : Ends} {σ : L2.St} {H : Hp} (h1 : ∀ Q' : Bool → Hp → Prop, (∀ H', Same H H' → Q' false H') → c σ H Q') (h2 : ∀ H', Same H H' → rest D σ H') : L2.tSeq (tIfS c a tNext) rest D σ H := h1 _ fun H' s => itF rfl (h2 H' s)
section
variable {P : Program} {w : World} {K : PySem.W.Frag} {mg : Str → Option Value} {base : Heap} {φ : Str × Option Str → FuncData}
def spChk (K : PySem.W.Frag) : Sp := fun vs H Q _ => ∃ (B : BA) (kvs : List (Key × V)) (es : List (Str × Ent)) (st : BkSt) (q lo : Addr) (i : Nat) (ts : Toks) (x : Str) (os : List Str) (pat : Bool), vs = [.ref B.p, .ref q, .int (i : Nat), .ref lo] ∧ BCx K H B kvs es st ∧ LnAt K H q ts ∧
  ts[i]? = some (tW x) ∧ H lo = some (.lst (os.map V.str)) ∧ os.length < 3 ∧ st.rs.length ≤ 100 ∧ OutOk st pat os x ∧ (∀ y, os[0]? = some y → okW y ∧ pattB y = pat) ∧ ∀ H', Same H H' → Q .non H'
theorem ok_BookReader_check_output (T : Tp w K mg φ) : FnOk P w K mg base CX0 3 (He.ma K (He.ga K "BookReader") "check_output") (φ ("BookReader", some "check_output")) P_BookReader_check_output (spChk K) := by
  have G_Line_word := ok_Line_word (P := P) (base := base) T
  have G_is_path := ok_is_path (P := P) (base := base) T
  have G_is_pattern := ok_is_pattern (P := P) (base := base) T
  have G_BookReader_is_output := ok_BookReader_is_output (P := P) (base := base) T
  refine okF T.F_BookReader_check_output sc_BookReader_check_output (fun vs H Q E h => ?_) (fun cdv A outer s H vs Q E hr h => ?_)
  · obtain ⟨B, kvs, es, st, q, lo, i, ts, x, os, pat, rfl, _⟩ := h
    rfl
  obtain ⟨B, kvs, es, st, q, lo, i, ts, x, os, pat, rfl, hX, hL, hi, hlo, hos, hrs, ⟨ho, hpa, hpt, hni, hnr, hnf⟩, h0, k⟩ := h
  have nd := sc_BookReader_check_output.nd
  refine ⟨_, (pss_cons (ps_set (i := 4) nd rfl (Or.inl rfl) (pe_meth (pv 1) T.c_Line T.m_Line_word G_Line_word (hr.mono (by omega)) T.b_Line_word .nil pass0 (pa_cons (pv 2) pa_nil)))
    (pss_cons (ps_if (pt_cmpR op_ge (pe_callB call_len_seq (by rfl) T.z_len (by decide +kernel) (pa_cons (pv 3) pa_nil)) (pe_gint T.i_OUTPUT_LIMIT) (nomark _)) 
      (pss_one ps_never) pss_nil)
    (pss_cons (ps_if (PW.pt (pw_and (pt_not (pt_val (pe_call G_is_path (hr.mono (by omega)) rfl T.g_is_path T.k_is_path T.b_is_path .nil pass0 (pa_cons (pv 4) pa_nil)))) (pw_and1 (pt_not (pt_val (pe_call G_is_pattern (hr.mono (by omega)) rfl T.g_is_pattern_paths T.k_is_pattern T.b_is_pattern .nil pass0 (pa_cons (pv 4) pa_nil))))))) 
      (pss_one ps_never) pss_nil)
    (pss_cons (ps_if (PW.pt (pw_and (pt_cmpR op_gt (pe_callB call_len_seq (by rfl) T.z_len (by decide +kernel) (pa_cons (pv 3) pa_nil)) pe_int (nomark _)) (pw_and1 (pt_cmpR op_ne (pe_call G_is_pattern (hr.mono (by omega)) rfl T.g_is_pattern_paths T.k_is_pattern T.b_is_pattern .nil pass0 (pa_cons (pv 4) pa_nil)) (pe_call G_is_pattern (hr.mono (by omega)) rfl T.g_is_pattern_paths T.k_is_pattern T.b_is_pattern .nil pass0 (pa_cons (pe_ix ix_list (pv 3) pe_int (fun _ _ => rfl)) pa_nil)) (nomark _))))) 
      (pss_one ps_never) pss_nil)
    (pss_cons (ps_if (PW.pt (pw_or (pt_cmpR op_in_seq (pv 4) (pv 3) (by rfl)) (pw_or1 (PW.pt (pw_and (pt_val (pe_call G_is_path (hr.mono (by omega)) rfl T.g_is_path T.k_is_path T.b_is_path .nil pass0 (pa_cons (pv 4) pa_nil))) (pw_and1 (pt_val (pe_meth (pv 0) T.c_BookReader T.m_BookReader_is_output G_BookReader_is_output (hr.mono (by omega)) T.b_BookReader_is_output .nil pass0 (pa_cons (pv 4) pa_nil))))))))) 
      (pss_one ps_never) pss_nil)
    (pss_one (ps_if (pt_cmpR op_in_seq (pv 4) (pe_fld (pe_fld (pv 0) rfl) rfl) (by rfl)) 
      (pss_one ps_never) pss_nil))))))), ?_⟩
  obtain ⟨dl, y1, y2, ly, ecy, usy, e1, e2, e3⟩ := id hL
  refine ⟨_, rfl, q, dl, _, rfl, e1, rfl, _, rfl, q, i, ts, _, rfl, hL, hi, ?_⟩
  rw [wd_W]
  refine ⟨_, rfl, lo, _, rfl, .inl (SqL.of hlo), _, _, rfl, rfl, _, rfl, itF (decide_eq_false (by rw [List.length_map]; omega)) ?_⟩
  -- neither a path nor a pattern
  dsimp only [tNext]
  refine cutI (fun Q' q => ⟨_, rfl, x, rfl, ho, fun H1 s1 => ?_⟩) fun H1 s1 => ?_
  · rw [hpa]
    cases pat with
    | false => exact ⟨_, rfl, itF rfl (q H1 s1)⟩
    | true =>
      refine ⟨_, rfl, itT rfl ⟨_, rfl, x, rfl, ho, fun H2 s2 => ?_⟩⟩
      rw [hpt]
      exact ⟨_, rfl, q H2 (s1.trans s2)⟩
  refine cutI (fun Q' q => ⟨_, rfl, lo, _, rfl, .inl (SqL.of (s1 _ _ hlo)), _, _, rfl, rfl, ?_⟩) fun H2 s2 => ?_
  · cases os with
    | nil => exact ⟨_, rfl, itF rfl (q H1 (Same.refl H1))⟩
    | cons y os =>
      obtain ⟨hy1, hy2⟩ := h0 y rfl
      refine ⟨_, rfl, itT (decide_eq_true (by simp)) ⟨_, rfl, x, rfl, ho, fun H2 s2 => ⟨_, rfl, lo, _, _, _, rfl, rfl, SqL.of (s2 _ _ (s1 _ _ hlo)), atI_nat (xs := (y :: os).map V.str) (j := 0) (v := .str y) rfl, y, rfl, hy1, fun H3 s3 => ?_⟩⟩⟩
      rw [hpt, hy2]
      refine ⟨rfl, _, rfl, ?_⟩
      rw [decide_eq_true rfl]
      exact q H3 (s2.trans s3)
  have hX2 := hX.same (s1.trans s2)
  have hlo2 := s2 _ _ (s1 _ _ hlo)
  refine cutI (fun Q' q => ⟨_, rfl, _, rfl, lo, _, rfl, .inl (SqL.of hlo2), rfl, flat_strs os, _, rfl, ?_⟩) fun H3 s3 => ?_
  · rw [inV_str, decide_eq_false hni]
    refine itF rfl ⟨_, rfl, x, rfl, ho, fun H3 s3 => ?_⟩
    rw [hpa]
    cases pat with
    | true => exact ⟨_, rfl, itF rfl (q H3 s3)⟩
    | false =>
      have hX3 := hX2.same s3
      exact ⟨_, rfl, itT rfl ⟨_, rfl, B.p, B.px, _, rfl, hX3.ob, rfl, _, rfl, B, kvs, es, st, x, rfl, hX3, hrs, hnr rfl, fun H4 s4 => ⟨_, rfl, q H4 (s3.trans s4)⟩⟩⟩
  have hX3 := hX2.same s3
  refine ⟨_, rfl, _, rfl, B.p, _, B.px, _, _, rfl, hX3.ob, T.c_BookReader, T.n_BookReader_book, rfl, B.b, _, B.bx, _, _, rfl, hX3.bk.ob, T.c_Book, T.n_Book_files, rfl, B.fl, _, rfl, .inl (SqL.of hX3.bk.hf), rfl, flat_strs st.fs, _, rfl, ?_⟩
  rw [inV_str, decide_eq_false hnf]
  exact itF rfl (k H3 (s1.trans (s2.trans s3)))
end
end Ky

/-! Recipes: outputs, inputs, settings, the whole readers. -/
namespace Ky
open PySem PySem.Spec PyProof.Rows L2 TL
/-- the outputs of a rule -/
structure OutsOk (st : BkSt) (pat : Bool) (os : List Str) : Prop where
  n1 : os ≠ []
  n3 : os.length ≤ 3
  nd : os.Nodup
  ok : ∀ x ∈ os, okW x ∧ pathB x = !pat ∧ pattB x = pat ∧ x ≠ (":" : Str) ∧ (pat = false → ∀ rd ∈ st.rs, x ∉ rd.outs) ∧ x ∉ st.fs
structure InsOk (pat : Bool) (is : List Str) : Prop where
  n6 : is.length ≤ 6
  ok : ∀ x ∈ is, okW x ∧ (pathB x = true ∨ (pathB x = false ∧ pat = true ∧ pattB x = true))
section
variable {P : Program} {w : World} {K : PySem.W.Frag} {mg : Str → Option Value} {base : Heap} {φ : Str × Option Str → FuncData}
def spOuts (K : PySem.W.Frag) : Sp := fun vs H Q _ => ∃ (B : BA) (kvs : List (Key × V)) (es : List (Str × Ent)) (st : BkSt) (q : Addr) (kw : Str) (rest : Toks) (os : List Str) (pat : Bool), vs = [.ref B.p, .ref q] ∧ BCx K H B kvs es st ∧ LnAt K H q (tW kw :: (os.map tW ++ tW ":" :: rest)) ∧
  st.rs.length ≤ 100 ∧ OutsOk st pat os ∧ ∀ H' r to, Same H H' → H' to = some (.tup (os.map V.str)) → H' r = some (.tup [.ref to, .int ((os.length + 1 : Nat) : Int)]) → Q (.ref r) H'
theorem ok_BookReader_read_outputs (T : Tp w K mg φ) : FnOk P w K mg base CX0 4 (He.ma K (He.ga K "BookReader") "read_outputs") (φ ("BookReader", some "read_outputs")) P_BookReader_read_outputs (spOuts K) := by
  have G_Line_word := ok_Line_word (P := P) (base := base) T
  have G_Line_need := ok_Line_need (P := P) (base := base) T
  have G_BookReader_check_output := ok_BookReader_check_output (P := P) (base := base) T
  refine okF T.F_BookReader_read_outputs sc_BookReader_read_outputs (fun vs H Q E h => ?_) (fun cdv A outer s H vs Q E hr h => ?_)
  · obtain ⟨B, kvs, es, st, q, kw, rest, os, pat, rfl, _⟩ := h
    rfl
  obtain ⟨B, kvs, es, st, q, kw, rest, os, pat, rfl, hX, hL, hrs, ⟨hn1, hn3, hnd, hok⟩, k⟩ := h
  have nd := sc_BookReader_read_outputs.nd
  refine ⟨_, (pss_cons (ps_set (i := 2) nd rfl (Or.inl rfl) (pe_lst pa_nil))
    (pss_cons (ps_set (i := 3) nd rfl (Or.inl rfl) pe_int)
    (pss_one (ps_while PassesOwn.never (pt_val pe_bl) 
      (pss_cons (ps_expr (pe_meth (pv 1) T.c_Line T.m_Line_need G_Line_need (hr.mono (by omega)) T.b_Line_need .nil pass0 (pa_cons (pv 3) pa_nil)))
      (pss_cons (ps_set (i := 4) nd rfl (Or.inl rfl) (pe_meth (pv 1) T.c_Line T.m_Line_word G_Line_word (hr.mono (by omega)) T.b_Line_word .nil pass0 (pa_cons (pv 3) pa_nil)))
      (pss_cons (ps_if (PW.pt (pw_and (pt_cmpR op_eq (pv 4) pe_str (nomark _)) (pw_and1 (pt_cmpR op_eq (pe_callB call_len_seq (by rfl) T.z_len (by decide +kernel) (pa_cons (pv 2) pa_nil)) pe_int (nomark _))))) 
        (pss_one ps_never) pss_nil)
      (pss_cons (ps_if (pt_cmpR op_eq (pv 4) pe_str (nomark _)) 
        (pss_one (ps_ret (pe_tup (pa_cons (pe_callTy call_tuple_of (by rfl) T.z_tuple (by decide +kernel) (pa_cons (pv 2) pa_nil)) (pa_cons (pv 3) pa_nil))))) pss_nil)
      (pss_cons (ps_expr (pe_meth (pv 0) T.c_BookReader T.m_BookReader_check_output G_BookReader_check_output (hr.mono (by omega)) T.b_BookReader_check_output .nil pass0 (pa_cons (pv 1) (pa_cons (pv 3) (pa_cons (pv 2) pa_nil)))))
      (pss_cons (ps_expr (pe_bm PySem.F.plainAttrs_list PySem.F.slot_list_append PySem.F.type_list_append mt_append (pv 2) (pa_cons (pv 4) pa_nil)))
      (pss_one (ps_aug (i := 3) nd rfl (Or.inl rfl) pe_int ip_add)))))))))))), ?_⟩
  refine ⟨Nat.zero_le _, fun lo hlo => ?_⟩
  refine ⟨fun m σ H' => ∃ a b w4, os = a ++ b ∧ m = b.length ∧ σ = [some (.ref B.p), some (.ref q), some (.ref lo), some (.int ((a.length + 1 : Nat) : Int)), w4] ∧ Same H H' ∧ H' lo = some (.lst (a.map V.str)),
    ⟨_, [], os, none, rfl, rfl, rfl, same_new hlo _, upd_same⟩, ?_⟩
  rintro m σ H' ⟨a, b, w4, rfl, rfl, rfl, s1, ha⟩
  have hX1 := hX.same s1
  have hL1 := hL.same s1
  obtain ⟨dl, y1, y2, ly, ecy, usy, e1, e2, e3⟩ := id hL1
  have hal : a.length ≤ 3 := by rw [List.length_append] at hn3; omega
  refine ⟨_, rfl, itT rfl ⟨_, fun _ _ z => z, ?_⟩⟩
  refine ⟨_, rfl, q, dl, _, rfl, e1, rfl, _, rfl, q, a.length + 1, _, rfl, hL1, by simp; omega, ?_⟩
  cases b with
  | nil =>
    rw [List.append_nil] at hn1 hL1 k
    have hg : (tW kw :: (a.map tW ++ tW ":" :: rest))[a.length + 1]? = some (tW ":") := by
      rw [List.getElem?_cons_succ, List.getElem?_append_right (by rw [List.length_map]; omega), List.length_map, Nat.sub_self]
      rfl
    refine ⟨_, rfl, q, dl, _, rfl, e1, rfl, _, rfl, q, a.length + 1, _, _, rfl, hL1, hg, ?_⟩
    rw [wd_W]
    have hne : a.length ≠ 0 := fun e => hn1 (List.length_eq_zero_iff.mp e)
    refine ⟨_, rfl, rfl, _, rfl, itT (by decide +kernel) ⟨_, rfl, lo, _, rfl, .inl (SqL.of ha), rfl, _, rfl, itF (decide_eq_false ?_) ?_⟩⟩
    · intro z
      have := V.int.inj z
      rw [List.length_map] at this
      omega
    refine ⟨_, rfl, rfl, _, rfl, itT (by decide +kernel) ?_⟩
    refine ⟨_, rfl, lo, _, rfl, .inl ⟨SqL.of ha, fun t0 ht0 => ?_⟩⟩
    refine ⟨_, rfl, by show 2 ≤ sizeLine; decide, fun t1 ht1 => ?_⟩
    have s2 := same_new ht0 (.tup (a.map V.str))
    have s3 := same_new ht1 (.tup [.ref t0, .int ((a.length + 1 : Nat) : Int)])
    exact k _ t1 t0 (s1.trans (s2.trans s3)) (s3 _ _ upd_same) upd_same
  | cons x b =>
    have hg : (tW kw :: ((a ++ x :: b).map tW ++ tW ":" :: rest))[a.length + 1]? = some (tW x) := by
      rw [List.getElem?_cons_succ, List.map_append, List.append_assoc, List.getElem?_append_right (by rw [List.length_map]; omega), List.length_map, Nat.sub_self]
      rfl
    refine ⟨_, rfl, q, dl, _, rfl, e1, rfl, _, rfl, q, a.length + 1, _, _, rfl, hL1, hg, ?_⟩
    rw [wd_W]
    obtain ⟨h1, h2, h3, h4, h5, h6⟩ := hok x (List.mem_append_right _ List.mem_cons_self)
    have hnx : decide (V.str x = V.str (":" : Str)) = false := decide_eq_false fun z => h4 (V.str.inj z)
    refine ⟨_, rfl, rfl, _, rfl, itF hnx ⟨_, rfl, rfl, _, rfl, itF hnx ?_⟩⟩
    have hna : x ∉ a := fun m => by
      rw [List.nodup_append] at hnd
      exact hnd.2.2 x m x List.mem_cons_self rfl
    refine ⟨_, rfl, B.p, B.px, _, rfl, hX1.ob, rfl, _, rfl, _, rfl, _, rfl, B, kvs, es, st, q, lo, a.length + 1, _, x, a, pat, rfl, hX1, hL1, hg, ha, ?_, hrs, ⟨h1, h2, h3, hna, h5, h6⟩, ?_, fun H2 s2 => ?_⟩
    · rw [List.length_append, List.length_cons] at hn3
      omega
    · intro y hy
      obtain ⟨g1, _, g3, _⟩ := hok y (List.mem_append_left _ (List.mem_of_getElem? hy))
      exact ⟨g1, g3⟩
    have ha2 := s2 _ _ ha
    refine ⟨_, rfl, .inl ⟨rfl, _, SqL.of ha2⟩, _, rfl, lo, _, _, rfl, rfl, ha2, szl (by rw [List.length_map]; omega), ?_⟩
    refine ⟨_, rfl, _, _, rfl, rfl, b.length, by simp, a ++ [x], b, some (.str x), by simp, rfl, ?_, ?_, ?_⟩
    · rw [List.length_append]
      rfl
    · exact Same.mut (s1.trans s2) hlo
    · rw [upd_same, List.map_append]
      rfl
def spIns (K : PySem.W.Frag) : Sp := fun vs H Q _ => ∃ (q : Addr) (pre : Toks) (is : List Str) (pat : Bool), vs = [.ref q, .int (pre.length : Nat), .bl pat] ∧ LnAt K H q (pre ++ is.map tW) ∧ pre.length ≤ 1000 ∧ InsOk pat is ∧ ∀ H' ti, Same H H' → H' ti = some (.tup (is.map V.str)) → Q (.ref ti) H'
theorem ok_read_inputs (T : Tp w K mg φ) : FnOk P w K mg base CX0 3 (He.ga K "read_inputs") (φ ("read_inputs", none)) P_read_inputs (spIns K) := by
  have G_Line_word := ok_Line_word (P := P) (base := base) T
  have G_is_path := ok_is_path (P := P) (base := base) T
  have G_is_pattern := ok_is_pattern (P := P) (base := base) T
  refine okF T.F_read_inputs sc_read_inputs (fun vs H Q E h => ?_) (fun cdv A outer s H vs Q E hr h => ?_)
  · obtain ⟨q, pre, is, pat, rfl, _⟩ := h
    rfl
  obtain ⟨q, pre, is, pat, rfl, hL, hpl, ⟨hn6, hok⟩, k⟩ := h
  have nd := sc_read_inputs.nd
  refine ⟨_, (pss_cons (ps_set (i := 3) nd rfl (Or.inl rfl) (pe_lst pa_nil))
    (pss_cons (ps_for PassesOwn.never rfl (pi_range2 rfl T.z_range (pa_cons (pv 1) (pa_cons (pe_callB call_len_seq (by rfl) T.z_len (by decide +kernel) (pa_cons (pe_fld (pv 0) rfl) pa_nil)) pa_nil))) (pg_name (i := 4) nd rfl (Or.inl rfl)) 
      (pss_cons (ps_set (i := 5) nd rfl (Or.inl rfl) (pe_meth (pv 0) T.c_Line T.m_Line_word G_Line_word (hr.mono (by omega)) T.b_Line_word .nil pass0 (pa_cons (pv 4) pa_nil)))
      (pss_cons (ps_if (pt_cmpR op_ge (pe_callB call_len_seq (by rfl) T.z_len (by decide +kernel) (pa_cons (pv 3) pa_nil)) (pe_gint T.i_INPUT_LIMIT) (nomark _)) 
        (pss_one ps_never) pss_nil)
      (pss_cons (ps_if (PW.pt (pw_and (pt_not (pt_val (pe_call G_is_path (hr.mono (by omega)) rfl T.g_is_path T.k_is_path T.b_is_path .nil pass0 (pa_cons (pv 5) pa_nil)))) (pw_and1 (pt_not (PW.pt (pw_and (pt_val (pv 2)) (pw_and1 (pt_val (pe_call G_is_pattern (hr.mono (by omega)) rfl T.g_is_pattern_paths T.k_is_pattern T.b_is_pattern .nil pass0 (pa_cons (pv 5) pa_nil)))))))))) 
        (pss_one ps_never) pss_nil)
      (pss_one (ps_expr (pe_bm PySem.F.plainAttrs_list PySem.F.slot_list_append PySem.F.type_list_append mt_append (pv 3) (pa_cons (pv 5) pa_nil))))))))
    (pss_one (ps_ret (pe_callTy call_tuple_of (by rfl) T.z_tuple (by decide +kernel) (pa_cons (pv 3) pa_nil)))))), ?_⟩
  refine ⟨Nat.zero_le _, fun lo hlo => ?_⟩
  have s0 := same_new hlo (.lst [])
  have hL0 := hL.same s0
  obtain ⟨dl, y1, y2, ly, ecy, usy, e1, e2, e3⟩ := id hL0
  have hul : usy.length = pre.length + is.length := by rw [e3.1, List.length_append, List.length_map]
  refine ⟨_, rfl, _, rfl, q, _, dl, _, _, rfl, e1, T.c_Line, T.n_Line_tokens, rfl, ly, _, rfl, .inl (SqL.of e2), _, _, rfl, ⟨by omega, by omega, by omega, by omega⟩, ?_⟩
  have en : (((usy.length : Nat) : Int) - ((pre.length : Nat) : Int)).toNat = is.length := by omega
  rw [en]
  refine for_range (n := is.length) (fun i σ H' => ∃ w4 w5, σ = [some (.ref q), some (.int (pre.length : Nat)), some (.bl pat), some (.ref lo), w4, w5] ∧ Same H H' ∧ H' lo = some (.lst ((is.take i).map V.str))) ⟨none, none, rfl, s0, upd_same⟩ ?_ ?_
  · rintro i σ H' hi ⟨w4, w5, rfl, s1, ha⟩
    have hL1 := hL.same s1
    obtain ⟨dl, y1, y2, ly, ecy, usy, e1, e2, e3⟩ := id hL1
    obtain ⟨x, hx⟩ : ∃ x, is[i]? = some x := ⟨is[i], List.getElem?_eq_getElem hi⟩
    have hg : (pre ++ is.map tW)[pre.length + i]? = some (tW x) := by
      rw [List.getElem?_append_right (by omega), Nat.add_sub_cancel_left, List.getElem?_map, hx]
      rfl
    obtain ⟨h1, h2⟩ := hok x (List.mem_of_getElem? hx)
    have htl : (is.take i).length = i := by rw [List.length_take]; omega
    refine ⟨_, rfl, q, dl, _, rfl, e1, rfl, _, rfl, q, pre.length + i, _, _, rfl, hL1, hg, ?_⟩
    rw [wd_W]
    refine ⟨_, rfl, lo, _, rfl, .inl (SqL.of ha), _, _, rfl, rfl, _, rfl, itF (decide_eq_false (by rw [List.length_map, htl]; omega)) ?_⟩
    dsimp only [tNext]
    refine cutI (fun Q' z => ⟨_, rfl, x, rfl, h1, fun H1 s2 => ?_⟩) fun H2 s2 => ?_
    · rcases h2 with h2 | ⟨h2, rfl, h3⟩
      · rw [h2]
        exact ⟨_, rfl, itF rfl (z H1 s2)⟩
      · rw [h2]
        refine ⟨_, rfl, itT rfl ⟨_, rfl, _, rfl, itT rfl ⟨_, rfl, x, rfl, h1, fun H3 s3 => ?_⟩⟩⟩
        rw [h3]
        exact ⟨_, rfl, z H3 (s2.trans s3)⟩
    have ha2 := s2 _ _ ha
    refine ⟨_, rfl, .inl ⟨rfl, _, SqL.of ha2⟩, _, rfl, lo, _, _, rfl, rfl, ha2, szl (by rw [List.length_map, htl]; omega), ?_⟩
    refine ⟨some (.int ((pre.length : Nat) + (i : Nat))), some (.str x), rfl, Same.mut (s1.trans s2) hlo, ?_⟩
    rw [upd_same, List.take_add_one, hx, List.map_append]
    rfl
  · rintro σ H' ⟨w4, w5, rfl, s1, ha⟩
    rw [List.take_length] at ha
    refine ⟨_, rfl, lo, _, rfl, .inl ⟨SqL.of ha, fun t0 ht0 => ?_⟩⟩
    exact k _ t0 (s1.trans (same_new ht0 _)) upd_same
/-- a settings line -/
def spSet (K : PySem.W.Frag) : Sp := fun vs H Q _ => ∃ (B : BA) (kvs : List (Key × V)) (es : List (Str × Ent)) (st : BkSt) (q : Addr) (n : Str) (v : List Nat), vs = [.ref B.p, .ref q] ∧ BCx K H B kvs es st ∧ LnAt K H q [tW "set", tW n, tQ v] ∧
  idn (tl n) = true ∧ n ∉ st.ss.map (·.1) ∧ n ≠ ("" : Str) ∧ st.ss.length ≤ 100 ∧ ∀ H', But3 B H H' → BCx K H' B kvs es { st with ss := st.ss ++ [(n, S v)] } → Q .non H'
theorem setE_val {n : Str} : ∀ {ss : List (Str × Str)}, n ∉ ss.map (·.1) → valV (ss.map setE) (Sum.inr n : Key) = none
  | [], _ => rfl
  | kv :: ss, h => by
    rw [List.map_cons]
    rw [valV_neg (by show (Sum.inr kv.1 : Key) ≠ Sum.inr n; intro z; exact h (by rw [List.map_cons, Sum.inr.inj z]; exact List.mem_cons_self))]
    exact setE_val fun m => h (List.mem_cons_of_mem _ m)
theorem setE_put {n v : Str} {ss : List (Str × Str)} (h : n ∉ ss.map (·.1)) : putK (ss.map setE) (Sum.inr n : Key) (.str v) = (ss ++ [(n, v)]).map setE := by
  unfold putK
  rw [if_neg, List.map_append]
  · rfl
  · intro z
    obtain ⟨kv, hk, e⟩ := List.any_eq_true.mp z
    obtain ⟨p, hp, rfl⟩ := List.mem_map.mp hk
    have e2 := of_decide_eq_true e
    exact h (List.mem_map.mpr ⟨p, hp, Sum.inr.inj e2⟩)
theorem ok_BookReader_read_setting (T : Tp w K mg φ) : FnOk P w K mg base CX0 3 (He.ma K (He.ga K "BookReader") "read_setting") (φ ("BookReader", some "read_setting")) P_BookReader_read_setting (spSet K) := by
  have G_Line_identifier := ok_Line_identifier (P := P) (base := base) T
  have G_Line_need := ok_Line_need (P := P) (base := base) T
  have G_Line_finish := ok_Line_finish (P := P) (base := base) T
  obtain ⟨ds0, hv0, hb0⟩ := b0_Line_identifier T
  refine okF T.F_BookReader_read_setting sc_BookReader_read_setting (fun vs H Q E h => ?_) (fun cdv A outer s H vs Q E hr h => ?_)
  · obtain ⟨B, kvs, es, st, q, n, v, rfl, _⟩ := h
    rfl
  obtain ⟨B, kvs, es, st, q, n, v, rfl, hX, hL, hn, hni, hne, hsl, k⟩ := h
  have nd := sc_BookReader_read_setting.nd
  have hu := hu_of hr
  refine ⟨_, (pss_cons (ps_set (i := 2) nd rfl (Or.inl rfl) (pe_meth (pv 1) T.c_Line T.m_Line_identifier G_Line_identifier (hr.mono (by omega)) hb0 hv0 pass0 (pa_cons pe_int pa_nil)))
    (pss_cons (ps_if (pt_cmp (pc_din hu (pv 2) (pe_fld (pe_fld (pv 0) rfl) rfl))) 
      (pss_one ps_never) pss_nil)
    (pss_cons (ps_expr (pe_meth (pv 1) T.c_Line T.m_Line_need G_Line_need (hr.mono (by omega)) T.b_Line_need .nil pass0 (pa_cons pe_int pa_nil)))
    (pss_cons (ps_if (pt_cmpR op_ne (pe_ix ix_tup (pe_ix ix_list (pe_fld (pv 1) rfl) pe_int (fun _ _ => rfl)) pe_int (fun _ _ => rfl)) pe_str (nomark _)) 
      (pss_one ps_never) pss_nil)
    (pss_cons (ps_expr (pe_meth (pv 1) T.c_Line T.m_Line_finish G_Line_finish (hr.mono (by omega)) T.b_Line_finish .nil pass0 (pa_cons pe_int pa_nil)))
    (pss_one (ps_dput hu (pe_fld (pe_fld (pv 0) rfl) rfl) (pv 2) (pe_ix ix_tup (pe_ix ix_list (pe_fld (pv 1) rfl) pe_int (fun _ _ => rfl)) pe_int (fun _ _ => rfl)) rfl))))))), ?_⟩
  obtain ⟨dl, y1, y2, ly, ecy, usy, e1, e2, e3⟩ := id hL
  refine ⟨_, rfl, q, dl, _, rfl, e1, rfl, q, 1, _, n, "", rfl, hL, rfl, hn, hne, fun H1 s1 => ?_⟩
  have hX1 := hX.same s1
  have hL1 := hL.same s1
  obtain ⟨dl, y1, y2, ly, ecy, usy, e1, e2, e3⟩ := id hL1
  refine ⟨_, rfl, _, rfl, B.p, _, B.px, _, _, rfl, hX1.ob, T.c_BookReader, T.n_BookReader_book, rfl, B.b, _, B.bx, _, _, rfl, hX1.bk.ob, T.c_Book, T.n_Book_settings, rfl, B.se, _, rfl, .inl ⟨_, Sum.inr n, .inl hX1.bk.hs, rfl, rfl⟩, _, rfl, ?_⟩
  rw [setE_val hni]
  refine itF rfl ?_
  refine ⟨_, rfl, q, dl, _, rfl, e1, rfl, q, 2, _, rfl, hL1, by simp, ?_⟩
  obtain ⟨tv, ht1, tq, col, rfl, ht2⟩ := e3.2 2 (tQ v) rfl
  refine ⟨_, rfl, q, _, dl, _, _, rfl, e1, T.c_Line, T.n_Line_tokens, rfl, ly, _, _, _, rfl, rfl, SqL.of e2, atI_nat (j := 2) ht1, tq, _, _, _, rfl, rfl, .inl (.inl ht2), rfl, rfl, _, rfl, itF ?_ ?_⟩
  · show (!decide (V.str ("string" : Str) = V.str ("string" : Str))) = false
    decide +kernel
  refine ⟨_, rfl, q, dl, _, rfl, e1, rfl, q, 3, _, rfl, hL1, by simp, ?_⟩
  refine ⟨_, rfl, q, _, dl, _, _, rfl, e1, T.c_Line, T.n_Line_tokens, rfl, ly, _, _, _, rfl, rfl, SqL.of e2, atI_nat (j := 2) ht1, tq, _, _, _, rfl, rfl, .inl (.inl ht2), rfl, _, rfl, B.p, _, B.px, _, _, rfl, hX1.ob, T.c_BookReader, T.n_BookReader_book, rfl, B.b, _, B.bx, _, _, rfl, hX1.bk.ob, T.c_Book, T.n_Book_settings, rfl, _, rfl, B.se, _, rfl, DPut.k (k := Sum.inr n) hX1.bk.hs (szl (by rw [List.length_map]; omega)), ?_⟩
  have e4 := setE_put (v := S v) hni
  show Q .non (upd H1 B.se (.dK (putK (st.ss.map setE) (Sum.inr n) (.str (S v)))))
  rw [e4]
  exact k _ ((But3.same s1).trans (upd_but _ (.inl rfl))) (hX1.set n (S v))
end
end Ky

/-! Recipes: the whole readers. -/
namespace Ky
open PySem PySem.Spec PyProof.Rows L2 TL
/-! ### what is read -/
def StpS (st : BkSt) (ts : Toks) (st' : BkSt) : Prop := ∃ n v, ts = [tW "set", tW n, tQ v] ∧ idn (tl n) = true ∧ n ∉ st.ss.map (·.1) ∧ n ≠ ("" : Str) ∧ st.ss.length ≤ 100 ∧ st' = { st with ss := st.ss ++ [(n, S v)] }
abbrev FilR := BkSt → Str → Str → BkSt → Prop
def StpU (F : FilR) (es : List (Str × Ent)) (st : BkSt) (ts : Toks) (st' : BkSt) : Prop := ∃ q r t, ts = [tW "use", tW q] ∧ okW q ∧ pathB q = true ∧ q ∉ st.fs ∧ (∀ rd ∈ st.rs, q ∉ rd.outs) ∧ st.rs.length ≤ 24 ∧ st.fs.length < 8 ∧
  rslv es 8 q = some r ∧ look es r = some (.file t "person") ∧ F st q t st'
def kwR (b : Bool) : Str := if b then "sealed" else "rule"
def StpR (st : BkSt) (ts : Toks) (ls : List Toks) (st' : BkSt) (rest : List Toks) : Prop := ∃ (r : RuD) (pat : Bool) (bl : List Toks) (c : Nat), ts = tW (kwR r.sealed) :: (r.outs.map tW ++ tW ":" :: r.ins.map tW) ∧ OutsOk st pat r.outs ∧ InsOk pat r.ins ∧
  BkD r.outs.length 3 ["stem"] r.body bl c ∧ c ≤ 40 ∧ ls = bl ++ [tW "end"] :: rest ∧ st.rs.length < 24 ∧ st' = { st with rs := st.rs ++ [r] }
def Stp (F : FilR) (es : List (Str × Ent)) (st : BkSt) (ts : Toks) (ls : List Toks) (st' : BkSt) (rest : List Toks) : Prop := (StpS st ts st' ∧ rest = ls) ∨ (StpU F es st ts st' ∧ rest = ls) ∨ StpR st ts ls st' rest
inductive RunL (F : FilR) (es : List (Str × Ent)) : BkSt → List Toks → BkSt → Prop
  | nil {st : BkSt} : RunL F es st [] st
  | skip {st st' : BkSt} {ls : List Toks} : RunL F es st ls st' → RunL F es st ([] :: ls) st'
  | step {st st1 st' : BkSt} {t : Tk} {ts : Toks} {ls rest : List Toks} : Stp F es st (t :: ts) ls st1 rest → RunL F es st1 rest st' → RunL F es st ((t :: ts) :: ls) st'
def Fil (es : List (Str × Ent)) : Nat → FilR
  | 0 => fun _ _ _ _ => False
  | n + 1 => fun st q t st' => ∃ tls, Lns (Txt.split t "\n") tls ∧ t.length ≤ 1000 ∧ st.fs.length ≤ 100 ∧ RunL (Fil es n) es { st with fs := st.fs ++ [q] } tls st'
theorem stp_le {F : FilR} {es : List (Str × Ent)} {st st' : BkSt} {ts : Toks} {ls rest : List Toks} (h : Stp F es st ts ls st' rest) : rest.length ≤ ls.length := by
  rcases h with ⟨_, rfl⟩ | ⟨_, rfl⟩ | ⟨r, pat, bl, c, _, _, _, _, _, rfl, _⟩
  · exact Nat.le_refl _
  · exact Nat.le_refl _
  · rw [List.length_append, List.length_cons]
    omega
section
variable {P : Program} {w : World} {K : PySem.W.Frag} {mg : Str → Option Value} {base : Heap} {φ : Str × Option Str → FuncData}
def spFile (K : PySem.W.Frag) (n : Nat) : Sp := fun vs H Q _ => ∃ (B : BA) (kvs : List (Key × V)) (es : List (Str × Ent)) (st st' : BkSt) (q t : Str), vs = [.ref B.p, .str q, .str t] ∧ BCx K H B kvs es st ∧ Fil es n st q t st' ∧
  ∀ H', But3 B H H' → BCx K H' B kvs es st' → Q .non H'
def spUse (K : PySem.W.Frag) (n : Nat) : Sp := fun vs H Q _ => ∃ (B : BA) (kvs : List (Key × V)) (es : List (Str × Ent)) (st st' : BkSt) (a : Addr) (ts : Toks), vs = [.ref B.p, .ref a] ∧ BCx K H B kvs es st ∧ LnAt K H a ts ∧ StpU (Fil es n) es st ts st' ∧
  ∀ H', But3 B H H' → BCx K H' B kvs es st' → Q .non H'
theorem ok_BookReader_read_use (T : Tp w K mg φ) (n : Nat) (G_BookReader_read_file : FnOk P w K mg base CX0 (3 * n + 24) (He.ma K (He.ga K "BookReader") "read_file") (φ ("BookReader", some "read_file")) P_BookReader_read_file (spFile K n)) :
    FnOk P w K mg base CX0 (3 * n + 25) (He.ma K (He.ga K "BookReader") "read_use") (φ ("BookReader", some "read_use")) P_BookReader_read_use (spUse K n) := by
  have G_Line_word := ok_Line_word (P := P) (base := base) T
  have G_Line_need := ok_Line_need (P := P) (base := base) T
  have G_Line_finish := ok_Line_finish (P := P) (base := base) T
  have G_is_path := ok_is_path (P := P) (base := base) T
  have G_BookReader_is_output := ok_BookReader_is_output (P := P) (base := base) T
  have G_recipe_text := ok_recipe_text (P := P) (base := base) T
  refine okF T.F_BookReader_read_use sc_BookReader_read_use (fun vs H Q E h => ?_) (fun cdv A outer s H vs Q E hr h => ?_)
  · obtain ⟨B, kvs, es, st, st', a, ts, rfl, _⟩ := h
    rfl
  obtain ⟨B, kvs, es, st, st', a, ts, rfl, hX, hL, ⟨q, r, t, rfl, h1, h2, h3, h4, hrs, h5, h6, h7, hF⟩, k⟩ := h
  have nd := sc_BookReader_read_use.nd
  refine ⟨_, (pss_cons (ps_expr (pe_meth (pv 1) T.c_Line T.m_Line_need G_Line_need (hr.mono (by omega)) T.b_Line_need .nil pass0 (pa_cons pe_int pa_nil)))
    (pss_cons (ps_set (i := 2) nd rfl (Or.inl rfl) (pe_meth (pv 1) T.c_Line T.m_Line_word G_Line_word (hr.mono (by omega)) T.b_Line_word .nil pass0 (pa_cons pe_int pa_nil)))
    (pss_cons (ps_if (pt_not (pt_val (pe_call G_is_path (hr.mono (by omega)) rfl T.g_is_path T.k_is_path T.b_is_path .nil pass0 (pa_cons (pv 2) pa_nil)))) 
      (pss_one ps_never) pss_nil)
    (pss_cons (ps_if (pt_cmpR op_in_seq (pv 2) (pe_fld (pe_fld (pv 0) rfl) rfl) (by rfl)) 
      (pss_cons (ps_expr (pe_meth (pv 1) T.c_Line T.m_Line_finish G_Line_finish (hr.mono (by omega)) T.b_Line_finish .nil pass0 (pa_cons pe_int pa_nil)))
      (pss_one ps_retN)) pss_nil)
    (pss_cons (ps_if (pt_val (pe_meth (pv 0) T.c_BookReader T.m_BookReader_is_output G_BookReader_is_output (hr.mono (by omega)) T.b_BookReader_is_output .nil pass0 (pa_cons (pv 2) pa_nil))) 
      (pss_one ps_never) pss_nil)
    (pss_cons (ps_if (pt_cmpR op_ge (pe_callB call_len_seq (by rfl) T.z_len (by decide +kernel) (pa_cons (pe_fld (pe_fld (pv 0) rfl) rfl) pa_nil)) (pe_gint T.i_FILE_LIMIT) (nomark _)) 
      (pss_one ps_never) pss_nil)
    (pss_cons (ps_set (i := 3) nd rfl (Or.inl rfl) (pe_call G_recipe_text (hr.mono (by omega)) rfl T.g_recipe_text T.k_recipe_text T.b_recipe_text .nil pass0 (pa_cons (pe_fld (pv 0) rfl) (pa_cons (pv 2) pa_nil))))
    (pss_cons (ps_if (pt_cmpR op_isN (pv 3) pe_non (nomark _)) 
      (pss_one ps_never) pss_nil)
    (pss_cons (ps_expr (pe_meth (pv 1) T.c_Line T.m_Line_finish G_Line_finish (hr.mono (by omega)) T.b_Line_finish .nil pass0 (pa_cons pe_int pa_nil)))
    (pss_one (ps_expr (pe_meth (pv 0) T.c_BookReader T.m_BookReader_read_file G_BookReader_read_file (hr.mono (by omega)) T.b_BookReader_read_file .nil pass0 (pa_cons (pv 2) (pa_cons (pv 3) pa_nil)))))))))))))), ?_⟩
  obtain ⟨dl, y1, y2, ly, ecy, usy, e1, e2, e3⟩ := id hL
  refine ⟨_, rfl, a, dl, _, rfl, e1, rfl, a, 1, _, rfl, hL, by simp, ?_⟩
  refine ⟨_, rfl, a, dl, _, rfl, e1, rfl, a, 1, _, _, rfl, hL, rfl, ?_⟩
  rw [wd_W]
  refine ⟨_, rfl, q, rfl, h1, fun H1 s1 => ⟨_, rfl, itF (nb h2) ?_⟩⟩
  have hX1 := hX.same s1
  refine ⟨_, rfl, _, rfl, B.p, _, B.px, _, _, rfl, hX1.ob, T.c_BookReader, T.n_BookReader_book, rfl, B.b, _, B.bx, _, _, rfl, hX1.bk.ob, T.c_Book, T.n_Book_files, rfl, B.fl, _, rfl, .inl (SqL.of hX1.bk.hf), rfl, flat_strs st.fs, _, rfl, ?_⟩
  rw [inV_str, decide_eq_false h3]
  refine itF rfl ?_
  refine ⟨_, rfl, B.p, B.px, _, rfl, hX1.ob, rfl, _, rfl, B, kvs, es, st, q, rfl, hX1, by omega, h4, fun H2 s2 => ⟨_, rfl, itF rfl ?_⟩⟩
  have hX2 := hX1.same s2
  refine ⟨_, rfl, B.p, _, B.px, _, _, rfl, hX2.ob, T.c_BookReader, T.n_BookReader_book, rfl, B.b, _, B.bx, _, _, rfl, hX2.bk.ob, T.c_Book, T.n_Book_files, rfl, B.fl, _, rfl, .inl (SqL.of hX2.bk.hf), _, _, rfl, rfl, _, rfl, itF (decide_eq_false (by rw [List.length_map]; omega)) ?_⟩
  refine ⟨_, rfl, B.p, _, B.px, _, _, rfl, hX2.ob, T.c_BookReader, T.n_BookReader_tree, rfl, _, rfl, B.t, B.tx, B.d, kvs, es, q, r, t, rfl, hX2.tr.r, h6, h7, ?_⟩
  refine ⟨_, rfl, rfl, _, rfl, itF rfl ?_⟩
  have hL2 := hL.same (s1.trans s2)
  obtain ⟨dl, y1, y2, ly, ecy, usy, e1, e2, e3⟩ := id hL2
  refine ⟨_, rfl, a, dl, _, rfl, e1, rfl, a, 2, _, rfl, hL2, by simp, ?_⟩
  refine ⟨_, rfl, B.p, B.px, _, rfl, hX2.ob, rfl, _, rfl, _, rfl, B, kvs, es, st, st', q, t, rfl, hX2, hF, fun H3 hB3 hX3 => ?_⟩
  exact k H3 ((But3.same (s1.trans s2)).trans hB3) hX3
def spRLine (K : PySem.W.Frag) (n : Nat) : Sp := fun vs H Q _ => ∃ (B : BA) (kvs : List (Key × V)) (es : List (Str × Ent)) (st st' : BkSt) (a l : Addr) (zs : List Str) (tls : List Toks) (i : Nat) (t : Tk) (ts : Toks) (ls rest : List Toks), vs = [.ref B.p, .ref a, .ref l, .int (i : Nat)] ∧ BCx K H B kvs es st ∧ LnAt K H a (t :: ts) ∧
  H l = some (.lst (zs.map V.str)) ∧ Lns zs tls ∧ tls.drop i = ls ∧ Stp (Fil es n) es st (t :: ts) ls st' rest ∧
  ∀ H' (j : Nat), But3 B H H' → BCx K H' B kvs es st' → tls.drop j = rest → Q (.int (j : Nat)) H'
theorem ok_BookReader_read_line (T : Tp w K mg φ) (n : Nat) (G_BookReader_read_use : FnOk P w K mg base CX0 (3 * n + 25) (He.ma K (He.ga K "BookReader") "read_use") (φ ("BookReader", some "read_use")) P_BookReader_read_use (spUse K n)) :
    FnOk P w K mg base CX0 (3 * n + 26) (He.ma K (He.ga K "BookReader") "read_line") (φ ("BookReader", some "read_line")) P_BookReader_read_line (spRLine K n) := by
  have G_Line_word := ok_Line_word (P := P) (base := base) T
  have G_is_pattern := ok_is_pattern (P := P) (base := base) T
  have G_BookReader_read_setting := ok_BookReader_read_setting (P := P) (base := base) T
  have G_BookReader_read_outputs := ok_BookReader_read_outputs (P := P) (base := base) T
  have G_read_inputs := ok_read_inputs (P := P) (base := base) T
  have G_BodyReader___init__ := ok_BodyReader___init__ (P := P) (base := base) T
  have G_Rule___init__ := ok_Rule___init__ (P := P) (base := base) T
  have G_BodyReader_read_block' := fun outs => ok_blocks (P := P) (base := base) T outs 3
  refine okF T.F_BookReader_read_line sc_BookReader_read_line (fun vs H Q E h => ?_) (fun cdv A outer s H vs Q E hr h => ?_)
  · obtain ⟨B, kvs, es, st, st', a, l, zs, tls, i, t, ts, ls, rest, rfl, _⟩ := h
    rfl
  obtain ⟨B, kvs, es, st, st', a, l, zs, tls, i, t, ts, ls, rest, rfl, hX, hL, hl, hzs, hdr, hS, k⟩ := h
  have nd := sc_BookReader_read_line.nd
  obtain ⟨dl, y1, y2, ly, ecy, usy, e1, e2, e3⟩ := id hL
  -- how many outputs the rule has
  obtain ⟨outs, hout⟩ : ∃ outs : Nat, ∀ r pat bl c, (t :: ts) = tW (kwR r.sealed) :: (r.outs.map tW ++ tW ":" :: r.ins.map tW) ∧ OutsOk st pat r.outs ∧ InsOk pat r.ins ∧ BkD r.outs.length 3 ["stem"] r.body bl c ∧ c ≤ 40 ∧ ls = bl ++ [tW "end"] :: rest ∧ st.rs.length < 24 ∧ st' = { st with rs := st.rs ++ [r] } → r.outs.length = outs := by
    by_cases h : ∃ r : RuD, st' = { st with rs := st.rs ++ [r] }
    · obtain ⟨r, hr⟩ := h
      refine ⟨r.outs.length, fun r' pat bl c h => ?_⟩
      have e := hr.symm.trans h.2.2.2.2.2.2.2
      have e2 : st.rs ++ [r] = st.rs ++ [r'] := congrArg BkSt.rs e
      have e3 := List.append_cancel_left e2
      injection e3 with e3
      rw [e3]
    · exact ⟨0, fun r pat bl c h2 => absurd ⟨r, h2.2.2.2.2.2.2.2⟩ h⟩
  have G_BodyReader_read_block := G_BodyReader_read_block' outs
  refine ⟨_, (pss_cons (ps_set (i := 4) nd rfl (Or.inl rfl) (pe_meth (pv 1) T.c_Line T.m_Line_word G_Line_word (hr.mono (by omega)) T.b_Line_word .nil pass0 (pa_cons pe_int pa_nil)))
    (pss_cons (ps_if (pt_cmpR op_eq (pv 4) pe_str (nomark _)) 
      (pss_cons (ps_expr (pe_meth (pv 0) T.c_BookReader T.m_BookReader_read_setting G_BookReader_read_setting (hr.mono (by omega)) T.b_BookReader_read_setting .nil pass0 (pa_cons (pv 1) pa_nil)))
      (pss_one (ps_ret (pv 3)))) pss_nil)
    (pss_cons (ps_if (pt_cmpR op_eq (pv 4) pe_str (nomark _)) 
      (pss_cons (ps_expr (pe_meth (pv 0) T.c_BookReader T.m_BookReader_read_use G_BookReader_read_use (hr.mono (by omega)) T.b_BookReader_read_use .nil pass0 (pa_cons (pv 1) pa_nil)))
      (pss_one (ps_ret (pv 3)))) pss_nil)
    (pss_cons (ps_if (PW.pt (pw_and (pt_cmpR op_ne (pv 4) pe_str (nomark _)) (pw_and1 (pt_cmpR op_ne (pv 4) pe_str (nomark _))))) 
      (pss_one ps_never) pss_nil)
    (pss_cons (ps_if (pt_cmpR op_ge (pe_callB call_len_seq (by rfl) T.z_len (by decide +kernel) (pa_cons (pe_fld (pe_fld (pv 0) rfl) rfl) pa_nil)) (pe_gint T.i_RULE_LIMIT) (nomark _)) 
      (pss_one ps_never) pss_nil)
    (pss_cons (ps_asg (pe_meth (pv 0) T.c_BookReader T.m_BookReader_read_outputs G_BookReader_read_outputs (hr.mono (by omega)) T.b_BookReader_read_outputs .nil pass0 (pa_cons (pv 1) pa_nil)) (pg_tup rfl (pgs_cons (pg_name (i := 5) nd rfl (Or.inl rfl)) (pgs_cons (pg_name (i := 6) nd rfl (Or.inl rfl)) pgs_nil))))
    (pss_cons (ps_set (i := 7) nd rfl (Or.inl rfl) (pe_call G_read_inputs (hr.mono (by omega)) rfl T.g_read_inputs T.k_read_inputs T.b_read_inputs .nil pass0 (pa_cons (pv 1) (pa_cons (pe_op op_add (pv 6) pe_int) (pa_cons (pe_call G_is_pattern (hr.mono (by omega)) rfl T.g_is_pattern_paths T.k_is_pattern T.b_is_pattern .nil pass0 (pa_cons (pe_ix ix_tup (pv 5) pe_int (fun _ _ => rfl)) pa_nil)) pa_nil)))))
    (pss_cons (ps_set (i := 8) nd rfl (Or.inl rfl) (pe_make T.mk_BodyReader G_BodyReader___init__ (hr.mono (by omega)) rfl T.g_BodyReader T.b_BodyReader___init__ .nil pass0 (pa_cons (pe_fld (pv 1) rfl) (pa_cons (pv 2) (pa_cons (pv 3) (pa_cons (pe_callB call_len_seq (by rfl) T.z_len (by decide +kernel) (pa_cons (pv 5) pa_nil)) pa_nil))))))
    (pss_cons (ps_asg (pe_meth (pv 8) T.c_BodyReader T.m_BodyReader_read_block G_BodyReader_read_block (hr.mono (by omega)) T.b_BodyReader_read_block .nil pass0 (pa_cons (pe_lst (pa_cons pe_str pa_nil)) (pa_cons pe_int (pa_cons pe_bl pa_nil)))) (pg_tup rfl (pgs_cons (pg_name (i := 9) nd rfl (Or.inl rfl)) (pgs_cons (pg_name (i := 10) nd rfl (Or.inl rfl)) pgs_nil))))
    (pss_cons (ps_expr (pe_bm PySem.F.plainAttrs_list PySem.F.slot_list_append PySem.F.type_list_append mt_append (pe_fld (pe_fld (pv 0) rfl) rfl) (pa_cons (pe_make T.mk_Rule G_Rule___init__ (hr.mono (by omega)) rfl T.g_Rule T.b_Rule___init__ .nil pass0 (pa_cons (pv 5) (pa_cons (pv 7) (pa_cons (pe_cmpR op_eq (pv 4) pe_str (nomark _)) (pa_cons (pv 9) pa_nil))))) pa_nil)))
    (pss_one (ps_ret (pe_fld (pv 8) rfl))))))))))))), ?_⟩
  rcases hS with ⟨⟨x, v, hts, h1, h2, h3, h4, rfl⟩, rfl⟩ | ⟨hU, rfl⟩ | ⟨r, pat, bl, c, hR⟩
  · -- set
    rw [hts] at hL
    refine ⟨_, rfl, a, dl, _, rfl, e1, rfl, a, 0, _, _, rfl, hL, rfl, ?_⟩
    rw [wd_W]
    refine ⟨_, rfl, rfl, _, rfl, itT (by decide +kernel) ?_⟩
    refine ⟨_, rfl, B.p, B.px, _, rfl, hX.ob, rfl, _, rfl, B, kvs, es, st, a, x, v, rfl, hX, hL, h1, h2, h3, h4, fun H' hB hX' => ?_⟩
    exact ⟨_, rfl, k H' i hB hX' hdr⟩
  · -- use
    obtain ⟨q, r, tt, hts, _⟩ := id hU
    have hL' := hL
    rw [hts] at hL'
    refine ⟨_, rfl, a, dl, _, rfl, e1, rfl, a, 0, _, _, rfl, hL', rfl, ?_⟩
    rw [wd_W]
    refine ⟨_, rfl, rfl, _, rfl, itF (by decide +kernel) ⟨_, rfl, rfl, _, rfl, itT (by decide +kernel) ?_⟩⟩
    refine ⟨_, rfl, B.p, B.px, _, rfl, hX.ob, rfl, _, rfl, B, kvs, es, st, st', a, _, rfl, hX, hL, hU, fun H' hB hX' => ?_⟩
    exact ⟨_, rfl, k H' i hB hX' hdr⟩
  · have ho := hout r pat bl c hR
    obtain ⟨hts, hO, hI, hBk, hc, hls, hrl24, rfl⟩ := hR
    subst ho
    rw [hts] at hL
    refine ⟨_, rfl, a, dl, _, rfl, e1, rfl, a, 0, _, _, rfl, hL, rfl, ?_⟩
    rw [wd_W]
    have hk1 : decide (V.str (kwR r.sealed) = V.str ("set" : Str)) = false := by cases r.sealed <;> decide +kernel
    have hk2 : decide (V.str (kwR r.sealed) = V.str ("use" : Str)) = false := by cases r.sealed <;> decide +kernel
    refine ⟨_, rfl, rfl, _, rfl, itF hk1 ⟨_, rfl, rfl, _, rfl, itF hk2 ?_⟩⟩
    dsimp only [tNext]
    refine cutI (fun Q' z => ?_) fun H0 s0 => ?_
    · cases r.sealed with
      | true => exact ⟨_, rfl, rfl, _, rfl, itT (by decide +kernel) ⟨_, rfl, rfl, _, rfl, z H (Same.refl H)⟩⟩
      | false => exact ⟨_, rfl, rfl, _, rfl, itF (by decide +kernel) (z H (Same.refl H))⟩
    have hX0 := hX.same s0
    have hL0 := hL.same s0
    obtain ⟨vs0, hrl0, hru0⟩ := hX0.bk.hr
    refine ⟨_, rfl, B.p, _, B.px, _, _, rfl, hX0.ob, T.c_BookReader, T.n_BookReader_book, rfl, B.b, _, B.bx, _, _, rfl, hX0.bk.ob, T.c_Book, T.n_Book_rules, rfl, B.rl, _, rfl, .inl (SqL.of hrl0), _, _, rfl, rfl, _, rfl, itF (decide_eq_false (by have := rusAt_len hru0; omega)) ?_⟩
    refine ⟨_, rfl, B.p, B.px, _, rfl, hX0.ob, rfl, _, rfl, B, kvs, es, st, a, kwR r.sealed, _, r.outs, pat, rfl, hX0, hL0, by omega, hO, fun H1 q1 to s1 hto hq1 => ?_⟩
    refine ⟨q1, _, rfl, .inl (.inl hq1), rfl, _, _, rfl, _, _, rfl, rfl, ?_⟩
    have hX1 := hX0.same s1
    have hL1 := hL0.same s1
    -- inputs
    obtain ⟨o1, os, hos⟩ : ∃ o1 os, r.outs = o1 :: os := by
      cases e : r.outs with
      | nil => exact absurd e hO.n1
      | cons x y => exact ⟨x, y, rfl⟩
    obtain ⟨g1, g2, g3, _⟩ := hO.ok o1 (by rw [hos]; exact List.mem_cons_self)
    have h0v : (r.outs.map V.str)[0]? = some (.str o1) := by rw [hos]; rfl
    refine ⟨_, rfl, _, rfl, _, _, rfl, rfl, _, rfl, to, _, _, _, rfl, rfl, .inl (.inl hto), atI_nat (j := 0) h0v, o1, rfl, g1, fun H2 s2 => ?_⟩
    rw [g3]
    have hX2 := hX1.same s2
    have hL2 := hL1.same s2
    have hL2' : LnAt K H2 a ((tW (kwR r.sealed) :: (r.outs.map tW ++ [tW ":"])) ++ r.ins.map tW) := by
      have e : (tW (kwR r.sealed) :: (r.outs.map tW ++ [tW ":"])) ++ r.ins.map tW = tW (kwR r.sealed) :: (r.outs.map tW ++ tW ":" :: r.ins.map tW) := by simp
      rw [e]
      exact hL2
    refine ⟨a, tW (kwR r.sealed) :: (r.outs.map tW ++ [tW ":"]), r.ins, pat, ?_, hL2', ?_, hI, fun H3 ti s3 hti => ?_⟩
    · have e : (((r.outs.length + 1 : Nat) : Int) + 1) = (((tW (kwR r.sealed) :: (r.outs.map tW ++ [tW ":"])).length : Nat) : Int) := by simp
      exact congrArg (fun z : Int => [V.ref a, V.int z, V.bl pat]) e
    · have := hO.n3
      simp
      omega
    have hX3 := hX2.same s3
    have hL3 := hL2.same s3
    have hl3 : H3 l = some (.lst (zs.map V.str)) := s3 _ _ (s2 _ _ (s1 _ _ (s0 _ _ hl)))
    have hto3 : H3 to = some (.tup (r.outs.map V.str)) := s3 _ _ (s2 _ _ hto)
    obtain ⟨dl, y1, y2, ly, ecy, usy, e1, e2, e3⟩ := id hL3
    -- the reader of the body
    refine ⟨_, rfl, a, _, dl, _, _, rfl, e1, T.c_Line, T.n_Line_path, rfl, _, rfl, _, rfl, _, rfl, to, _, rfl, .inr (.inl (.inl hto3)), ?_⟩
    rw [List.length_map]
    intro rp rx nrp nrx nedr
    refine ⟨rp, rx, l, y1, zs, i, r.outs.length, rfl, upd_same, ?_, fun H4 lr hR4 hB4 => ⟨rfl, ?_⟩⟩
    · rw [upd_ne (ne_of_none hl3 nrp), upd_ne (ne_of_none hl3 nrx)]
      exact hl3
    have s4 : Same H3 H4 := made_keep nrp nrx hB4
    have hX4 := hX3.same s4
    -- the body
    have ob4 := hR4.ob
    refine ⟨_, rfl, rp, rx, _, rfl, ob4, rfl, by show 1 ≤ sizeLine; decide, fun kl hkl => ?_⟩
    have s5 := same_new hkl (.lst [.str "stem"])
    have hX5 := hX4.same s5
    refine ⟨rp, kl, rx, lr, y1, 0, false, zs, tls, i, 0, ["stem"], r.body, bl, c, [], "end", rest, rfl, by omega, by decide, ⟨hR4.same s5, hzs, upd_same⟩, hBk, ?_, by simp, .inl rfl, by omega, by simp; omega, fun H6 q6 vb hB6 hR6 hvb hq6 => ?_⟩
    · rw [hdr, hls]
      rfl
    refine ⟨q6, _, rfl, .inl (.inl hq6), rfl, _, _, rfl, _, _, rfl, rfl, ?_⟩
    have s6 : Same H3 H6 := fun c0 o0 h0 => hB6 _ _ (s5 _ _ (s4 _ _ h0)) (ne_of_none h0 nrp)
    have hX6 := hX3.same s6
    -- the rule
    obtain ⟨vs6, hrl6, hru6⟩ := hX6.bk.hr
    refine ⟨_, rfl, B.p, _, B.px, _, _, rfl, hX6.ob, T.c_BookReader, T.n_BookReader_book, rfl, B.b, _, B.bx, _, _, rfl, hX6.bk.ob, T.c_Book, T.n_Book_rules, rfl, .inl ⟨rfl, _, SqL.of hrl6⟩, ?_⟩
    refine ⟨_, rfl, _, rfl, _, rfl, rfl, _, rfl, ?_⟩
    intro u ux nu nux nedu
    have hsl : decide (V.str (kwR r.sealed) = V.str ("sealed" : Str)) = r.sealed := by cases r.sealed <;> decide +kernel
    rw [hsl]
    refine ⟨u, ux, to, ti, r.sealed, vb, rfl, upd_same, fun H7 hu7 hB7 => ⟨rfl, ?_⟩⟩
    have s7 : Same H6 H7 := made_keep nu nux hB7
    have hX7 := hX6.same s7
    have hRu : RuAt K H7 (.ref u) r := ⟨u, ux, to, ti, vb, rfl, hu7, s7 _ _ (s6 _ _ hto3), s7 _ _ (s6 _ _ hti), dp_same s7 _ _ hvb, fun d hd => (blk_good (fun h => stD_good h) hBk d hd).mono (by omega)⟩
    refine ⟨B.rl, _, _, rfl, rfl, s7 _ _ hrl6, szl (by have := rusAt_len hru6; omega), ?_⟩
    have hX8 := hX7.rule (s7 _ _ hrl6) (rusAt_ki (KI.same s7) hru6) hRu
    have nrr : rp ≠ B.rl := ne_of hR6.ob hrl6 (by intro z; cases z)
    refine ⟨_, rfl, rp, _, rx, _, _, rfl, by rw [upd_ne nrr]; exact s7 _ _ hR6.ob, T.c_BodyReader, T.n_BodyReader_at, rfl, ?_⟩
    refine k _ (i + bl.length + ([] : List Toks).length + 1) ((But3.same (s0.trans (s1.trans (s2.trans (s3.trans (s6.trans s7)))))).trans (upd_but _ (.inr (.inl rfl)))) hX8 ?_
    have h9 : tls.drop i = (bl ++ [[tW "end"]]) ++ rest := by rw [hdr, hls]; simp
    have h10 := drop_step h9
    have h11 : i + (bl ++ [[tW "end"]]).length = i + bl.length + ([] : List Toks).length + 1 := by simp; omega
    rwa [h11] at h10
theorem run_cases {F : FilR} {es : List (Str × Ent)} {st st' : BkSt} {t : Tk} {ts : Toks} {ls : List Toks} (h : RunL F es st ((t :: ts) :: ls) st') : ∃ st1 rest, Stp F es st (t :: ts) ls st1 rest ∧ RunL F es st1 rest st' := by
  cases h with
  | step h1 h2 => exact ⟨_, _, h1, h2⟩
theorem run_skip {F : FilR} {es : List (Str × Ent)} {st st' : BkSt} {ls : List Toks} (h : RunL F es st ([] :: ls) st') : RunL F es st ls st' := by
  cases h with
  | skip h => exact h
theorem run_nil {F : FilR} {es : List (Str × Ent)} {st st' : BkSt} (h : RunL F es st [] st') : st' = st := by
  cases h
  rfl
theorem ok_BookReader_read_file (T : Tp w K mg φ) (n : Nat) (G_BookReader_read_line : FnOk P w K mg base CX0 (3 * n + 26) (He.ma K (He.ga K "BookReader") "read_line") (φ ("BookReader", some "read_line")) P_BookReader_read_line (spRLine K n)) :
    FnOk P w K mg base CX0 (3 * n + 27) (He.ma K (He.ga K "BookReader") "read_file") (φ ("BookReader", some "read_file")) P_BookReader_read_file (spFile K (n + 1)) := by
  have G_Line___init__ := ok_Line___init__ (P := P) (base := base) T
  refine okF T.F_BookReader_read_file sc_BookReader_read_file (fun vs H Q E h => ?_) (fun cdv A outer s H vs Q E hr h => ?_)
  · obtain ⟨B, kvs, es, st, st', q, t, rfl, _⟩ := h
    rfl
  obtain ⟨B, kvs, es, st, st', q, t, rfl, hX, ⟨tls, hzs, ht, hfl, hRun⟩, k⟩ := h
  have nd := sc_BookReader_read_file.nd
  refine ⟨_, (pss_cons (ps_expr (pe_bm PySem.F.plainAttrs_list PySem.F.slot_list_append PySem.F.type_list_append mt_append (pe_fld (pe_fld (pv 0) rfl) rfl) (pa_cons (pv 1) pa_nil)))
    (pss_cons (ps_set (i := 3) nd rfl (Or.inl rfl) (pe_split (pv 2) pe_str))
    (pss_cons (ps_set (i := 4) nd rfl (Or.inl rfl) pe_int)
    (pss_one (ps_while PassesOwn.never (pt_cmpR op_lt (pv 4) (pe_callB call_len_seq (by rfl) T.z_len (by decide +kernel) (pa_cons (pv 3) pa_nil)) (nomark _)) 
      (pss_cons (ps_set (i := 5) nd rfl (Or.inl rfl) (pe_make T.mk_Line G_Line___init__ (hr.mono (by omega)) rfl T.g_Line T.b_Line___init__ .nil pass0 (pa_cons (pv 1) (pa_cons (pe_op op_add (pv 4) pe_int) (pa_cons (pe_ix ix_list (pv 3) (pv 4) (fun _ _ => rfl)) pa_nil)))))
      (pss_cons (ps_aug (i := 4) nd rfl (Or.inl rfl) pe_int ip_add)
      (pss_one (ps_if (pt_cmpR op_gt (pe_callB call_len_seq (by rfl) T.z_len (by decide +kernel) (pa_cons (pe_fld (pv 5) rfl) pa_nil)) pe_int (nomark _)) 
        (pss_one (ps_set (i := 4) nd rfl (Or.inl rfl) (pe_meth (pv 0) T.c_BookReader T.m_BookReader_read_line G_BookReader_read_line (hr.mono (by omega)) T.b_BookReader_read_line .nil pass0 (pa_cons (pv 5) (pa_cons (pv 3) (pa_cons (pv 4) pa_nil)))))) pss_nil))))))))), ?_⟩
  refine ⟨_, rfl, B.p, _, B.px, _, _, rfl, hX.ob, T.c_BookReader, T.n_BookReader_book, rfl, B.b, _, B.bx, _, _, rfl, hX.bk.ob, T.c_Book, T.n_Book_files, rfl, .inl ⟨rfl, _, SqL.of hX.bk.hf⟩, _, rfl, B.fl, _, _, rfl, rfl, hX.bk.hf, szl (by rw [List.length_map]; omega), ?_⟩
  have hX1 := hX.file q
  have ef : upd H B.fl (.lst (st.fs.map V.str ++ [.str q])) = upd H B.fl (.lst ((st.fs ++ [q]).map V.str)) := by rw [List.map_append] <;> rfl
  rw [ef]
  have hB1 : But3 B H (upd H B.fl (.lst ((st.fs ++ [q]).map V.str))) := upd_but _ (.inr (.inr rfl))
  generalize upd H B.fl (.lst ((st.fs ++ [q]).map V.str)) = H1 at hX1 hB1 ⊢
  refine ⟨_, rfl, ⟨_, rfl⟩, _, _, rfl, rfl, by decide +kernel, sz (by omega), fun l hl => ?_⟩
  have s2 := same_new hl (.lst ((Txt.split t "\n").map V.str))
  have hl2 : (upd H1 l (.lst ((Txt.split t "\n").map V.str))) l = some (.lst ((Txt.split t "\n").map V.str)) := upd_same
  have hX2 := hX1.same s2
  obtain ⟨vs1, hrl1, _⟩ := hX1.bk.hr
  have n1 : l ≠ B.se := (ne_of_none hX1.bk.hs hl).symm
  have n2 : l ≠ B.rl := (ne_of_none hrl1 hl).symm
  have n3 : l ≠ B.fl := (ne_of_none hX1.bk.hf hl).symm
  have hB2 : But3 B H (upd H1 l (.lst ((Txt.split t "\n").map V.str))) := hB1.trans (But3.same s2)
  generalize upd H1 l (.lst ((Txt.split t "\n").map V.str)) = H2 at hl2 hX2 hB2 ⊢
  refine ⟨fun m σ H' => ∃ (st1 : BkSt) (ls : List Toks) (i : Nat) (v5 : Option V), RunL (Fil es n) es st1 ls st' ∧ tls.drop i = ls ∧ m = ls.length ∧ σ = [some (.ref B.p), some (.str q), some (.str t), some (.ref l), some (.int (i : Nat)), v5] ∧ But3 B H H' ∧ BCx K H' B kvs es st1 ∧ H' l = some (.lst ((Txt.split t "\n").map V.str)),
    ⟨_, _, tls, 0, none, hRun, rfl, rfl, rfl, hB2, hX2, hl2⟩, ?_⟩
  rintro m σ H' ⟨st1, ls, i, v5, hR1, hdr, rfl, rfl, hB3, hX3, hl3⟩
  refine ⟨_, rfl, _, rfl, l, _, rfl, .inl (SqL.of hl3), _, _, rfl, rfl, _, rfl, ?_⟩
  cases ls with
  | nil =>
    have hge : tls.length ≤ i := by
      have := congrArg List.length hdr
      rw [List.length_drop] at this
      exact Nat.sub_eq_zero_iff_le.mp this
    refine itF (decide_eq_false (by rw [List.length_map, hzs.1]; omega)) ?_
    obtain rfl := run_nil hR1
    exact k H' hB3 hX3
  | cons tk ls =>
    have hg : tls[i]? = some tk := drop_get hdr
    have hil : i < (Txt.split t "\n").length := by rw [hzs.1]; exact lt_of_get hg
    obtain ⟨z, hzi⟩ : ∃ z, (Txt.split t "\n")[i]? = some z := ⟨(Txt.split t "\n")[i], List.getElem?_eq_getElem hil⟩
    obtain ⟨hLL, hz1000⟩ := hzs.2 i z tk hzi hg
    have hzv : ((Txt.split t "\n").map V.str)[i]? = some (.str z) := by rw [List.getElem?_map, hzi]; rfl
    have hdr1 : tls.drop (i + 1) = ls := drop_step (a := [tk]) hdr
    refine itT (decide_eq_true (by rw [List.length_map]; omega)) ⟨_, fun _ _ z => z, ?_⟩
    refine ⟨_, rfl, _, rfl, _, _, rfl, rfl, _, rfl, _, rfl, l, _, _, _, rfl, rfl, SqL.of hl3, atI_nat hzv, ?_⟩
    intro a dq nq ndq nedq
    refine ⟨a, dq, _, _, z, tk, rfl, upd_same, hLL, hz1000, fun H4 hL4 hk4 => ⟨rfl, ?_⟩⟩
    have s4 : Same H' H4 := made_keep nq ndq hk4
    have hX4 := hX3.same s4
    have hl4 := s4 _ _ hl3
    obtain ⟨dx2, x2, y2, l2, ec2, us2, e1, e2, e3⟩ := id hL4
    refine ⟨_, rfl, _, _, rfl, rfl, _, rfl, a, _, dx2, _, _, rfl, e1, T.c_Line, T.n_Line_tokens, rfl, l2, _, rfl, .inl (SqL.of e2), _, _, rfl, rfl, _, rfl, ?_⟩
    cases tk with
    | nil =>
      refine itF (decide_eq_false (by rw [e3.1]; simp)) ?_
      exact ⟨ls.length, by simp, st1, ls, i + 1, _, run_skip hR1, hdr1, rfl, rfl, hB3.trans (But3.same s4), hX4, hl4⟩
    | cons t0 ts0 =>
      refine itT (decide_eq_true (by rw [e3.1]; simp)) ?_
      obtain ⟨st2, rest, hS, hR2⟩ := run_cases hR1
      have hle := stp_le hS
      refine ⟨_, rfl, B.p, B.px, _, rfl, hX4.ob, rfl, _, rfl, _, rfl, _, rfl, B, kvs, es, st1, st2, a, l, _, tls, i + 1, t0, ts0, ls, rest, rfl, hX4, hL4, hl4, hzs, hdr1, hS, fun H5 j hB5 hX5 hdr5 => ?_⟩
      exact ⟨rest.length, by simp; omega, st2, rest, j, _, hR2, hdr5, rfl, rfl, hB3.trans ((But3.same s4).trans hB5), hX5, hB5 _ _ hl4 n1 n2 n3⟩
/-- the recursion -/
theorem ok_files (T : Tp w K mg φ) : ∀ n : Nat, FnOk P w K mg base CX0 (3 * n + 24) (He.ma K (He.ga K "BookReader") "read_file") (φ ("BookReader", some "read_file")) P_BookReader_read_file (spFile K n)
  | 0 => fnOk_never fun vs H Q E h => by
      obtain ⟨B, kvs, es, st, st', q, t, _, _, h, _⟩ := h
      exact h
  | n + 1 => ok_BookReader_read_file T n (ok_BookReader_read_line T n (ok_BookReader_read_use T n (ok_files T n)))
def spRdI (K : PySem.W.Frag) : Sp := fun vs H Q _ => ∃ (p dx t tx d : Addr) (kvs : List (Key × V)) (es : List (Str × Ent)), vs = [.ref p, .ref t] ∧ H p = some (.ins (He.ga K "BookReader") dx []) ∧ TrW K H t tx d kvs es ∧
  ∀ H' (B : BA), B.p = p → B.t = t → H B.b = none → H B.se = none → H B.rl = none → H B.fl = none → BCx K H' B kvs es ⟨[], [], []⟩ → But p H H' → Q .non H'
theorem ok_BookReader___init__ (T : Tp w K mg φ) : FnOk P w K mg base CX0 3 (He.ma K (He.ga K "BookReader") "__init__") (φ ("BookReader", some "__init__")) P_BookReader___init__ (spRdI K) := by
  have G_Book___init__ := ok_Book___init__ (P := P) (base := base) T
  refine okF T.F_BookReader___init__ sc_BookReader___init__ (fun vs H Q E h => ?_) (fun cdv A outer s H vs Q E hr h => ?_)
  · obtain ⟨p, dx, t, tx, d, kvs, es, rfl, _⟩ := h
    rfl
  obtain ⟨p, dx, t, tx, d, kvs, es, rfl, hp, hT, k⟩ := h
  refine ⟨_, (pss_cons (ps_fld (pv 0) (pv 1) rfl)
    (pss_one (ps_fld (pv 0) (pe_make0 T.mk_Book G_Book___init__ (hr.mono (by omega)) rfl T.g_Book T.b_Book___init__ .nil pass0) rfl))), ?_⟩
  refine ⟨_, rfl, _, rfl, p, _, dx, _, rfl, hp, T.c_BookReader, T.n_BookReader_tree, by decide, ?_⟩
  intro b bx nb nbx nedb
  have npb : p ≠ b := ne_of_none upd_same nb
  have npx : p ≠ bx := ne_of_none upd_same nbx
  refine ⟨b, bx, rfl, upd_same, fun H1 se rl fl nse nrl nfl hbk hB1 => ⟨rfl, ?_⟩⟩
  have hB0 : But p H H1 := fun c o hc hcp => hB1 _ _ (by rw [upd_ne (ne_of_none (by rw [upd_ne hcp]; exact hc) nb), upd_ne (ne_of_none (by rw [upd_ne hcp]; exact hc) nbx), upd_ne hcp]; exact hc) (ne_of_none (by rw [upd_ne hcp]; exact hc) nb)
  have hp1 : H1 p = some (.ins (He.ga K "BookReader") dx [("tree", .ref t)]) := hB1 _ _ (by rw [upd_ne npb, upd_ne npx, upd_same] <;> rfl) npb
  refine ⟨_, rfl, p, _, dx, _, rfl, hp1, T.c_BookReader, T.n_BookReader_book, by show 1 < 1000; decide, ?_⟩
  have fr : ∀ {c : Addr}, (upd (upd (upd H p (.ins (He.ga K "BookReader") dx [("tree", .ref t)])) bx (.own b)) b (.ins (He.ga K "Book") bx [])) c = none → H c = none := fun {c} h => by
    have h1 : c ≠ b := fun e => by rw [e, upd_same] at h; cases h
    rw [upd_ne h1] at h
    have h2 : c ≠ bx := fun e => by rw [e, upd_same] at h; cases h
    rw [upd_ne h2] at h
    have h3 : c ≠ p := fun e => by rw [e, upd_same] at h; cases h
    rwa [upd_ne h3] at h
  have hb0 : H b = none := by rwa [upd_ne npb.symm] at nb
  have htp : t ≠ p := fun e => by
    have := hT.ob
    rw [e, hp] at this
    injection this with this
    injection this with _ _ this
    cases this
  have hdp : d ≠ p := ne_of hT.dc hp (by intro z; cases z)
  have hT1 : TrW K H1 t tx d kvs es := ⟨hB0 _ _ hT.ob htp, hB0 _ _ hT.dc hdp, ent_fk (hB0.fk (by rw [hp]; trivial)).t hT.en⟩
  have sm : ∀ o, But p H1 (upd H1 p o) := fun o => But.upd o
  have nbp : b ≠ p := npb.symm
  have k1 : ∀ c o, H1 c = some o → c ≠ p → (upd H1 p (.ins (He.ga K "BookReader") dx [("tree", .ref t), ("book", .ref b)])) c = some o := fun c o h n => by rw [upd_ne n]; exact h
  have npse : se ≠ p := ne_of hbk.hs hp1 (by intro z; cases z)
  have nprl : rl ≠ p := by obtain ⟨vs, hr1, _⟩ := hbk.hr; exact ne_of hr1 hp1 (by intro z; cases z)
  have npfl : fl ≠ p := ne_of hbk.hf hp1 (by intro z; cases z)
  refine k _ ⟨p, dx, t, tx, d, b, bx, se, rl, fl⟩ rfl rfl hb0 (fr nse) (fr nrl) (fr nfl) ⟨upd_same, ⟨k1 _ _ hT1.ob htp, k1 _ _ hT1.dc hdp, ent_fk (FK.ins _ hp1).t hT1.en⟩, ⟨k1 _ _ hbk.ob nbp, k1 _ _ hbk.hs npse, ?_, k1 _ _ hbk.hf npfl, hbk.ne⟩, ?_⟩ (hB0.trans (But.upd _))
  · obtain ⟨vs, hr1, hu1⟩ := hbk.hr
    have hv : vs = [] := by
      have := rusAt_len hu1
      exact List.length_eq_zero_iff.mp this
    subst hv
    exact ⟨[], k1 _ _ hr1 nprl, trivial⟩
  · exact ne_of_none hT.dc (fr nse)
def spPB (K : PySem.W.Frag) : Sp := fun vs H Q _ => ∃ (t tx d : Addr) (kvs : List (Key × V)) (es : List (Str × Ent)) (r x : Str) (st' : BkSt), vs = [.ref t] ∧ TrW K H t tx d kvs es ∧ rslv es 8 "rules" = some r ∧ look es r = some (.file x "person") ∧ Fil es 2 ⟨[], [], []⟩ "rules" x st' ∧
  ∀ H' b bx se rl fl, Same H H' → BkAt K H' b bx se rl fl st' → Q (.ref b) H'
theorem ok_parse_book (T : Tp w K mg φ) : FnOk P w K mg base CX0 31 (He.ga K "parse_book") (φ ("parse_book", none)) P_parse_book (spPB K) := by
  have G_recipe_text := ok_recipe_text (P := P) (base := base) T
  have G_BookReader___init__ := ok_BookReader___init__ (P := P) (base := base) T
  have G_BookReader_read_file := ok_files (P := P) (base := base) T 2
  refine okF T.F_parse_book sc_parse_book (fun vs H Q E h => ?_) (fun cdv A outer s H vs Q E hr h => ?_)
  · obtain ⟨t, tx, d, kvs, es, r, x, st', rfl, _⟩ := h
    rfl
  obtain ⟨t, tx, d, kvs, es, r, x, st', rfl, hT, h1, h2, hF, k⟩ := h
  have nd := sc_parse_book.nd
  refine ⟨_, (pss_cons (ps_set (i := 1) nd rfl (Or.inl rfl) (pe_call G_recipe_text (hr.mono (by omega)) rfl T.g_recipe_text T.k_recipe_text T.b_recipe_text .nil pass0 (pa_cons (pv 0) (pa_cons (pe_gstr T.s_FIRST_FILE) pa_nil))))
    (pss_cons (ps_if (pt_cmpR op_isN (pv 1) pe_non (nomark _)) 
      (pss_one ps_never) pss_nil)
    (pss_cons (ps_set (i := 2) nd rfl (Or.inl rfl) (pe_make T.mk_BookReader G_BookReader___init__ (hr.mono (by omega)) rfl T.g_BookReader T.b_BookReader___init__ .nil pass0 (pa_cons (pv 0) pa_nil)))
    (pss_cons (ps_expr (pe_meth (pv 2) T.c_BookReader T.m_BookReader_read_file G_BookReader_read_file (hr.mono (by omega)) T.b_BookReader_read_file .nil pass0 (pa_cons (pe_gstr T.s_FIRST_FILE) (pa_cons (pv 1) pa_nil))))
    (pss_one (ps_ret (pe_fld (pv 2) rfl))))))), ?_⟩
  refine ⟨_, rfl, t, tx, d, kvs, es, "rules", r, x, rfl, hT.r, h1, h2, ?_⟩
  refine ⟨_, rfl, rfl, _, rfl, itF rfl ?_⟩
  refine ⟨_, rfl, ?_⟩
  intro p px np npx nepx
  have s1 : Same H (upd (upd H px (.own p)) p (.ins (He.ga K "BookReader") px [])) := made_keep np npx fun c o h _ => h
  refine ⟨p, px, t, tx, d, kvs, es, rfl, upd_same, hT.same s1, fun H1 B hBp hBt nb nse nrl nfl hX hB1 => ⟨rfl, ?_⟩⟩
  have s2 : Same H H1 := fun c o h => hB1 _ _ (s1 _ _ h) (ne_of_none h np)
  subst hBp
  have fr : ∀ {c : Addr}, (upd (upd H px (.own B.p)) B.p (.ins (He.ga K "BookReader") px [])) c = none → H c = none := fun {c} h => s1.free h
  refine ⟨_, rfl, B.p, B.px, _, rfl, hX.ob, rfl, _, rfl, B, kvs, es, _, st', "rules", x, rfl, hX, hF, fun H2 hB2 hX2 => ?_⟩
  have s3 : Same H H2 := fun c o h => hB2 _ _ (s2 _ _ h) (ne_of_none h (fr nse)) (ne_of_none h (fr nrl)) (ne_of_none h (fr nfl))
  exact ⟨_, rfl, B.p, _, B.px, _, _, rfl, hX2.ob, T.c_BookReader, T.n_BookReader_book, rfl, k H2 B.b B.bx B.se B.rl B.fl s3 hX2.bk⟩
end
end Ky

/-! Rules compared. -/
namespace Ky
open PySem PySem.Spec PyProof.Rows L2 TL
theorem insC {w : World} {K : PySem.W.Frag} {mg : Str → Option Value} {φ : Str × Option Str → FuncData} (T : Tp w K mg φ) {x : Str} (c : Cls K (He.ga K x)) (h : insB K x = true) : C8.InsC K (He.ga K x) := by
  unfold insB at h
  obtain ⟨h1, h⟩ := Bool.and_eq_true_iff.mp h
  obtain ⟨h2, h⟩ := Bool.and_eq_true_iff.mp h
  obtain ⟨h3, h4⟩ := Bool.and_eq_true_iff.mp h
  exact ⟨c, He.eqO_ok h1, He.eqO_ok h2, of_decide_eq_true h3, of_decide_eq_true h4, if_pos (beq_self_eq_true _)⟩
theorem Tp.iRule {w : World} {K : PySem.W.Frag} {mg : Str → Option Value} {φ : Str × Option Str → FuncData} (T : Tp w K mg φ) : C8.InsC K (He.ga K "Rule") := insC T T.c_Rule (Bool.and_eq_true_iff.mp T.more2).1
theorem Tp.iBook {w : World} {K : PySem.W.Frag} {mg : Str → Option Value} {φ : Str × Option Str → FuncData} (T : Tp w K mg φ) : C8.InsC K (He.ga K "Book") := insC T T.c_Book (Bool.and_eq_true_iff.mp T.more2).2
/-! ### data of a rule -/
def strsD (l : List Str) : PyData := .tuple (l.map PyData.str)
theorem dpa_strs {K : PySem.W.Frag} {H : Hp} : ∀ l : List Str, DpAll K H (l.map V.str) (l.map PyData.str)
  | [] => .nil
  | x :: l => .cons (.str x) (dpa_strs l)
theorem dp_strs {K : PySem.W.Frag} {H : Hp} {a : Addr} {l : List Str} (h : H a = some (.tup (l.map V.str))) : Dp K H (.ref a) (strsD l) := dp_tup h (dpa_strs l)
theorem gd_strs {l : List Str} (h : ∀ x ∈ l, asc (tl x) = true) : Gd 1 (strsD l) := Gd.tuple fun d hd => by
  obtain ⟨x, hx, rfl⟩ := List.mem_map.mp hd
  exact Gd.str (h x hx)
theorem Gd.shaped {k : Nat} {d : PyData} (h : Gd k d) (hk : k ≤ 64) : SeqAt.shaped d = true := Bool.and_eq_true_iff.mpr ⟨h.lay, decide_eq_true (Nat.le_trans h.dep hk)⟩
/-- the texts of a rule -/
def RuAsc (rd : RuD) : Prop := (∀ x ∈ rd.outs, asc (tl x) = true) ∧ ∀ x ∈ rd.ins, asc (tl x) = true
section
variable {P : Program} {w : World} {K : PySem.W.Frag} {mg : Str → Option Value} {base : Heap} {φ : Str × Option Str → FuncData}
def ReqR (K : PySem.W.Frag) (a b : Addr) (H : Hp) : Prop := ∃ rd, RuAsc rd ∧ RuAt K H (.ref a) rd ∧ RuAt K H (.ref b) rd
theorem eqv_self {k : Nat} {d : PyData} (h : Gd k d) : PyData.eqv d d = true := PySem.SeqAt.eqv_refl d h.lay
theorem ok_Rule___eq__ (T : Tp w K mg φ) : FnOk P w K mg base CX0 1 (He.ma K (He.ga K "Rule") "__eq__") (φ ("Rule", some "__eq__")) P_Rule___eq__ (spEq (ReqR K)) := by
  refine okF T.F_Rule___eq__ sc_Rule___eq__ (fun vs H Q E h => ?_) (fun cdv A outer s H vs Q E hr h => ?_)
  · obtain ⟨a, b, rfl, _⟩ := h
    rfl
  obtain ⟨a, b, rfl, ⟨rd, has, ⟨p1, x1, to1, ti1, vb1, e1, h1, h2, h3, h4, h5⟩, ⟨p2, x2, to2, ti2, vb2, e2, g1, g2, g3, g4, g5⟩⟩, k⟩ := h
  cases e1
  cases e2
  have hu := hr.units
  refine ⟨_, (pss_one (ps_ret (pe_and (pe_callB (C8.call_isC T.iRule) (by rfl) T.z_isinstance (by decide +kernel) (pa_cons (pv 1) (pa_cons (pe_gref T.g_Rule) pa_nil))) (pe_and (pe_cmpR (op_eqD hu) (pe_fld (pv 0) rfl) (pe_fld (pv 1) rfl) (nomark _)) (pe_and (pe_cmpR (op_eqD hu) (pe_fld (pv 0) rfl) (pe_fld (pv 1) rfl) (nomark _)) (pe_and (pe_cmpR (op_eqD hu) (pe_fld (pv 0) rfl) (pe_fld (pv 1) rfl) (nomark _)) (pe_one (pe_cmpR (op_eqD hu) (pe_fld (pv 0) rfl) (pe_fld (pv 1) rfl) (nomark _))))))))), ?_⟩
  have gb : Gd 31 (.tuple rd.body) := Gd.tuple h5
  have q1 : SeqAt.shaped (strsD rd.outs) = true := (gd_strs has.1).shaped (by decide)
  have q2 : SeqAt.shaped (strsD rd.ins) = true := (gd_strs has.2).shaped (by decide)
  have q3 : SeqAt.shaped (.tuple rd.body) = true := gb.shaped (by decide)
  refine ⟨_, rfl, _, x2, _, rfl, g1, _, rfl, itT rfl ?_⟩
  refine ⟨_, rfl, a, _, x1, _, _, rfl, h1, T.c_Rule, T.n_Rule_outputs, rfl, _, rfl, b, _, x2, _, _, rfl, g1, T.c_Rule, T.n_Rule_outputs, rfl, strsD rd.outs, strsD rd.outs, dp_strs h2, dp_strs g2, q1, q1, _, rfl, itT (eqv_self (gd_strs has.1)) ?_⟩
  refine ⟨_, rfl, a, _, x1, _, _, rfl, h1, T.c_Rule, T.n_Rule_inputs, rfl, _, rfl, b, _, x2, _, _, rfl, g1, T.c_Rule, T.n_Rule_inputs, rfl, strsD rd.ins, strsD rd.ins, dp_strs h3, dp_strs g3, q2, q2, _, rfl, itT (eqv_self (gd_strs has.2)) ?_⟩
  refine ⟨_, rfl, a, _, x1, _, _, rfl, h1, T.c_Rule, T.n_Rule_sealed, rfl, _, rfl, b, _, x2, _, _, rfl, g1, T.c_Rule, T.n_Rule_sealed, rfl, .bool rd.sealed, .bool rd.sealed, .bl _, .bl _, rfl, rfl, _, rfl, itT (by simp [PyData.eqv]) ?_⟩
  refine ⟨_, rfl, a, _, x1, _, _, rfl, h1, T.c_Rule, T.n_Rule_body, rfl, _, rfl, b, _, x2, _, _, rfl, g1, T.c_Rule, T.n_Rule_body, rfl, _, _, h4, g4, q3, q3, ?_⟩
  rw [eqv_self gb]
  exact k H Ext.rfl'
theorem ok_Rule_is_pattern (T : Tp w K mg φ) : FnOk P w K mg base CX0 3 (He.ma K (He.ga K "Rule") "is_pattern") (φ ("Rule", some "is_pattern")) P_Rule_is_pattern
    (fun vs H Q _ => ∃ (a : Addr) (rd : RuD) (x : Str), vs = [.ref a] ∧ RuAt K H (.ref a) rd ∧ rd.outs[0]? = some x ∧ okW x ∧ ∀ H', Same H H' → Q (.bl (pattB x)) H') := by
  have G_is_pattern := ok_is_pattern (P := P) (base := base) T
  refine okF T.F_Rule_is_pattern sc_Rule_is_pattern (fun vs H Q E h => ?_) (fun cdv A outer s H vs Q E hr h => ?_)
  · obtain ⟨a, rd, x, rfl, _⟩ := h
    rfl
  obtain ⟨a, rd, x, rfl, ⟨p1, x1, to1, ti1, vb1, e1, h1, h2, h3, h4, h5⟩, hx, ho, k⟩ := h
  cases e1
  refine ⟨_, (pss_one (ps_ret (pe_call G_is_pattern (hr.mono (by omega)) rfl T.g_is_pattern_paths T.k_is_pattern T.b_is_pattern .nil pass0 (pa_cons (pe_ix ix_tup (pe_fld (pv 0) rfl) pe_int (fun _ _ => rfl)) pa_nil)))), ?_⟩
  have h0v : (rd.outs.map V.str)[0]? = some (.str x) := by rw [List.getElem?_map, hx]; rfl
  exact ⟨_, rfl, a, _, x1, _, _, rfl, h1, T.c_Rule, T.n_Rule_outputs, rfl, to1, _, _, _, rfl, rfl, .inl (.inl h2), atI_nat (j := 0) h0v, x, rfl, ho, fun H' s => k H' s⟩
end
end Ky

/-! The law's draws. -/
namespace Ky
open PySem PySem.Spec PyProof.Rows L2 TL
/-- numbers stand at l -/
def NumL (H : Hp) (l : Addr) : Prop := ∃ ns : List Int, H l = some (.lst (ns.map V.int)) ∧ ns.length ≤ 1000 ∧ ∀ n ∈ ns, 0 ≤ n
theorem NumL.same {H H' : Hp} {l : Addr} (h : NumL H l) (e : Same H H') : NumL H' l := by
  obtain ⟨ns, h1, h2⟩ := h
  exact ⟨ns, e _ _ h1, h2⟩
section
variable {P : Program} {w : World} {K : PySem.W.Frag} {mg : Str → Option Value} {base : Heap} {φ : Str × Option Str → FuncData}
def spTake : Sp := fun vs H Q _ => ∃ (l : Addr) (lim : Int), vs = [.ref l, .int lim] ∧ 0 < lim ∧ NumL H l ∧ ∀ H' i, But l H H' → NumL H' l → 0 ≤ i → i < lim → Q (.int i) H'
theorem ok_law_take (T : Tp w K mg φ) : FnOk P w K mg base CX0 1 (He.ga K "_law_take") (φ ("_law_take", none)) P_law_take spTake := by
  refine okF T.F_law_take sc_law_take (fun vs H Q E h => ?_) (fun cdv A outer s H vs Q E hr h => ?_)
  · obtain ⟨l, lim, rfl, _⟩ := h
    rfl
  obtain ⟨l, lim, rfl, hl, ⟨ns, h1, h2, h3⟩, k⟩ := h
  refine ⟨_, (pss_cons (ps_if (pt_cmpR op_eq (pe_callB call_len_seq (by rfl) T.z_len (by decide +kernel) (pa_cons (pv 0) pa_nil)) pe_int (nomark _)) 
      (pss_one (ps_ret pe_int)) pss_nil)
    (pss_one (ps_ret (pe_op op_mod (pe_callTy call_int1 (by rfl) T.z_int (by decide +kernel) (pa_cons (pe_bm0 PySem.F.plainAttrs_list PySem.F.slot_list_pop PySem.F.type_list_pop mt_pop (pv 0)) pa_nil)) (pv 1))))), ?_⟩
  refine ⟨_, rfl, l, _, rfl, .inl (SqL.of h1), rfl, _, rfl, ?_⟩
  by_cases hn : ns = []
  · subst hn
    exact itT rfl (k H 0 (fun c o h _ => h) ⟨[], h1, h2, h3⟩ (Int.le_refl _) hl)
  · have hpos : 0 < ns.length := List.length_pos_iff.mpr hn
    refine itF (decide_eq_false fun e => ?_) ?_
    · have := V.int.inj e
      rw [List.length_map] at this
      omega
    · have hg : (ns.map V.int)[(ns.map V.int).length - 1]? = some (.int (ns[ns.length - 1]'(by omega))) := by
        rw [List.length_map, List.getElem?_map, List.getElem?_eq_getElem (by omega)] <;> rfl
      refine ⟨_, rfl, .inl ⟨rfl, _, SqL.of h1⟩, l, _, _, rfl, rfl, h1, hg, ?_⟩
      refine .inl ⟨_, rfl, _, rfl, _, _, rfl, rfl, hl, ?_⟩
      refine k _ _ (But.upd _) ⟨ns.dropLast, ?_, ?_, fun n hn => h3 n (List.dropLast_subset _ hn)⟩ (Int.emod_nonneg _ (by omega)) (Int.emod_lt_of_pos _ hl)
      · rw [upd_same, List.map_dropLast]
      · rw [List.length_dropLast]
        omega
def spCell (K : PySem.W.Frag) : Sp := fun vs H Q _ => ∃ (a : Addr) (ns : List Int) (i : Nat), vs = [.ref a, .int (i : Nat)] ∧ SqL K H a (ns.map V.int) ∧ ∀ c, Q (.int c) H
theorem ok_law_cell (T : Tp w K mg φ) : FnOk P w K mg base CX0 1 (He.ga K "_law_cell") (φ ("_law_cell", none)) P_law_cell (spCell K) := by
  refine okF T.F_law_cell sc_law_cell (fun vs H Q E h => ?_) (fun cdv A outer s H vs Q E hr h => ?_)
  · obtain ⟨a, ns, i, rfl, _⟩ := h
    rfl
  obtain ⟨a, ns, i, rfl, ha, k⟩ := h
  refine ⟨_, (pss_cons (ps_if (pt_cmpR op_lt (pv 1) (pe_callB call_len_seq (by rfl) T.z_len (by decide +kernel) (pa_cons (pv 0) pa_nil)) (nomark _)) 
      (pss_one (ps_ret (pe_callTy call_int1 (by rfl) T.z_int (by decide +kernel) (pa_cons (pe_ix ix_list (pv 0) (pv 1) (fun _ _ => rfl)) pa_nil)))) pss_nil)
    (pss_one (ps_ret pe_int))), ?_⟩
  refine ⟨_, rfl, _, rfl, a, _, rfl, .inl ha, _, _, rfl, rfl, _, rfl, ?_⟩
  by_cases hi : i < ns.length
  · refine itT (decide_eq_true (by rw [List.length_map]; omega)) ?_
    have hg : (ns.map V.int)[i]? = some (.int (ns[i])) := by rw [List.getElem?_map, List.getElem?_eq_getElem hi] <;> rfl
    exact ⟨_, rfl, _, rfl, a, _, _, _, rfl, rfl, ha, atI_nat hg, .inl ⟨_, rfl, k _⟩⟩
  · refine itF (decide_eq_false (by rw [List.length_map]; omega)) (k 0)
def spDraws : Sp := fun vs H Q _ => ∃ (c : Int) (m : Nat) (lim : Int), vs = [.int c, .int (m : Nat), .int lim] ∧ m ≤ 100 ∧ 0 < lim ∧ lim < 10000 ∧ ∀ H' l (ns : List Int), Same H H' → H l = none → H' l = some (.lst (ns.map V.int)) → ns.length ≤ 100 → (∀ n ∈ ns, 0 ≤ n) → Q (.ref l) H'
theorem ok_law_draws (T : Tp w K mg φ) : FnOk P w K mg base CX0 1 (He.ga K "_law_draws") (φ ("_law_draws", none)) P_law_draws spDraws := by
  refine okF T.F_law_draws sc_law_draws (fun vs H Q E h => ?_) (fun cdv A outer s H vs Q E hr h => ?_)
  · obtain ⟨c, m, lim, rfl, _⟩ := h
    rfl
  obtain ⟨c, m, lim, rfl, hm, hl0, hl1, k⟩ := h
  have nd := sc_law_draws.nd
  refine ⟨_, (pss_cons (ps_set (i := 3) nd rfl (Or.inl rfl) (pe_lst pa_nil))
    (pss_cons (ps_set (i := 4) nd rfl (Or.inl rfl) (pe_callB call_abs (by rfl) T.z_abs (by decide +kernel) (pa_cons (pv 0) pa_nil)))
    (pss_cons (ps_for PassesOwn.never rfl (pi_range1 rfl T.z_range (pa_cons (pv 1) pa_nil)) (pg_name (i := 5) nd rfl (Or.inl rfl)) 
      (pss_one (ps_if (PW.pt (pw_and (pt_cmpR op_ge (pe_callB call_abs (by rfl) T.z_abs (by decide +kernel) (pa_cons (pv 0) pa_nil)) (pe_op op_pow pe_int pe_int) (nomark _)) (pw_and1 (pt_cmpR op_gt (pv 4) pe_int (nomark _))))) 
        (pss_cons (ps_expr (pe_bm PySem.F.plainAttrs_list PySem.F.slot_list_append PySem.F.type_list_append mt_append (pv 3) (pa_cons (pe_op op_mod (pe_callTy call_int1 (by rfl) T.z_int (by decide +kernel) (pa_cons (pv 4) pa_nil)) (pv 2)) pa_nil)))
        (pss_one (ps_set (i := 4) nd rfl (Or.inl rfl) (pe_op op_fdiv (pv 4) (pv 2))))) 
        (pss_cons (ps_set (i := 6) nd rfl (Or.inl rfl) (pe_op op_mod (pe_callTy call_int1 (by rfl) T.z_int (by decide +kernel) (pa_cons (pe_op op_add (pe_op op_add (pe_op op_mul (pe_callB call_abs (by rfl) T.z_abs (by decide +kernel) (pa_cons (pv 0) pa_nil)) pe_int) (pe_op op_mul (pv 5) pe_int)) pe_int) pa_nil)) pe_int))
        (pss_cons (ps_set (i := 6) nd rfl (Or.inl rfl) (pe_op op_mod (pe_callTy call_int1 (by rfl) T.z_int (by decide +kernel) (pa_cons (pe_op op_add (pe_op op_add (pe_op op_mul (pv 6) pe_int) (pe_op op_fdiv (pv 6) pe_int)) (pe_op op_mul (pv 5) pe_int)) pa_nil)) pe_int))
        (pss_one (ps_expr (pe_bm PySem.F.plainAttrs_list PySem.F.slot_list_append PySem.F.type_list_append mt_append (pv 3) (pa_cons (pe_op op_mod (pe_op op_fdiv (pv 6) pe_int) (pv 2)) pa_nil)))))))))
    (pss_one (ps_ret (pv 3)))))), ?_⟩
  refine ⟨Nat.zero_le _, fun l hl => ?_⟩
  refine ⟨_, rfl, _, rfl, ?_⟩
  have ha : 0 ≤ (if c < 0 then -c else c) := by split <;> omega
  generalize (if c < 0 then -c else c) = a at ha ⊢
  refine ⟨_, rfl, _, rfl, by omega, by omega, ?_⟩
  have em : ((m : Nat) : Int).toNat = m := by omega
  rw [em]
  have s0 := same_new hl (.lst [])
  refine for_range (n := m) (fun i σ H' => ∃ (z : Int) (v5 v6 : Option V) (ns : List Int), σ = [some (.int c), some (.int (m : Nat)), some (.int lim), some (.ref l), some (.int z), v5, v6] ∧ Same H H' ∧ H' l = some (.lst (ns.map V.int)) ∧ ns.length = i ∧ ∀ n ∈ ns, 0 ≤ n) ⟨_, none, none, [], rfl, s0, upd_same, rfl, by simp⟩ ?_ ?_
  · rintro i σ H' hi ⟨z, v5, v6, ns, rfl, s1, h1, h2, h3⟩
    have put : ∀ (y z' : Int) (v6' : Option V), 0 ≤ y → ∃ (z : Int) (v5 v6 : Option V) (ns2 : List Int), [some (V.int c), some (.int (m : Nat)), some (.int lim), some (.ref l), some (.int z'), some (.int (0 + (i : Nat))), v6'] = [some (.int c), some (.int (m : Nat)), some (.int lim), some (.ref l), some (.int z), v5, v6] ∧ Same H (upd H' l (.lst (ns.map V.int ++ [.int y]))) ∧ (upd H' l (.lst (ns.map V.int ++ [.int y]))) l = some (.lst (ns2.map V.int)) ∧ ns2.length = i + 1 ∧ ∀ n ∈ ns2, 0 ≤ n := by
      intro y z' v6' hy
      refine ⟨z', _, v6', ns ++ [y], rfl, Same.mut s1 hl, by rw [upd_same, List.map_append] <;> rfl, by simp [h2], fun n hn => ?_⟩
      rcases List.mem_append.mp hn with h | h
      · exact h3 n h
      · rw [List.mem_singleton.mp h]; exact hy
    have hsz : (ns.map V.int).length < sizeLine := szl (by rw [List.length_map]; omega)
    have nn : ∀ y : Int, 0 ≤ y % lim := fun y => Int.emod_nonneg _ (by omega)
    refine ⟨_, rfl, _, rfl, _, _, rfl, rfl, ⟨by decide, by decide, by decide⟩, _, _, rfl, rfl, _, rfl, it2 (fun _ => ⟨_, rfl, _, _, rfl, rfl, _, rfl, it2 (fun _ => ?_) fun _ => ?_⟩) fun _ => ?_⟩
    · refine ⟨_, rfl, .inl ⟨rfl, _, SqL.of h1⟩, _, rfl, .inl ⟨_, rfl, _, rfl, _, _, rfl, rfl, hl0, l, _, _, rfl, rfl, h1, hsz, ?_⟩⟩
      exact ⟨_, rfl, _, rfl, _, _, rfl, rfl, ⟨hl0, by omega⟩, put _ _ _ (nn _)⟩
    · refine ⟨_, rfl, _, rfl, _, _, rfl, rfl, .inr ⟨by decide, by decide⟩, _, rfl, _, _, rfl, rfl, .inr ⟨by decide, by decide⟩, _, _, rfl, rfl, _, _, rfl, rfl, .inl ⟨_, rfl, _, _, rfl, rfl, (by show (0:Int) < _; decide), ?_⟩⟩
      refine ⟨_, rfl, _, _, rfl, rfl, .inr ⟨by decide, by decide⟩, _, rfl, _, _, rfl, rfl, ⟨by decide, by decide⟩, _, _, rfl, rfl, _, rfl, _, _, rfl, rfl, .inr ⟨by decide, by decide⟩, _, _, rfl, rfl, .inl ⟨_, rfl, _, _, rfl, rfl, (by show (0:Int) < _; decide), ?_⟩⟩
      exact ⟨_, rfl, .inl ⟨rfl, _, SqL.of h1⟩, _, rfl, _, _, rfl, rfl, ⟨by decide, by decide⟩, _, rfl, _, _, rfl, rfl, hl0, l, _, _, rfl, rfl, h1, hsz, put _ _ _ (nn _)⟩
    · refine ⟨_, rfl, _, rfl, _, _, rfl, rfl, .inr ⟨by decide, by decide⟩, _, rfl, _, _, rfl, rfl, .inr ⟨by decide, by decide⟩, _, _, rfl, rfl, _, _, rfl, rfl, .inl ⟨_, rfl, _, _, rfl, rfl, (by show (0:Int) < _; decide), ?_⟩⟩
      refine ⟨_, rfl, _, _, rfl, rfl, .inr ⟨by decide, by decide⟩, _, rfl, _, _, rfl, rfl, ⟨by decide, by decide⟩, _, _, rfl, rfl, _, rfl, _, _, rfl, rfl, .inr ⟨by decide, by decide⟩, _, _, rfl, rfl, .inl ⟨_, rfl, _, _, rfl, rfl, (by show (0:Int) < _; decide), ?_⟩⟩
      exact ⟨_, rfl, .inl ⟨rfl, _, SqL.of h1⟩, _, rfl, _, _, rfl, rfl, ⟨by decide, by decide⟩, _, rfl, _, _, rfl, rfl, hl0, l, _, _, rfl, rfl, h1, hsz, put _ _ _ (nn _)⟩
  · rintro σ H' ⟨z, v5, v6, ns, rfl, s1, h1, h2, h3⟩
    exact ⟨_, rfl, k H' l ns s1 hl h1 (by omega) h3⟩
end
end Ky

/-! The law's terms and expressions. -/
namespace Ky
open PySem PySem.Spec PyProof.Rows L2 TL
/-! ### rules: a token is out; a space times an int -/
/-- as PE; behind it a token is out -/
def PE1 (X : Cx) (e : Expr) (t : TE) : Prop :=
  ∀ (pins : List (Addr × Obj)) (s : Shared) (σ : L2.St) (H : Hp) (Q : VK), Inv X pins σ H s → t σ H Q → wpAny (model X.prog X.w) X.A (eval e X.env) (fun v s' => 1 ≤ s'.toks ∧ EP X pins σ Q v s') X.xe s
section
variable {X : Cx} {e f : Expr} {te tf : TE} {c : Str} {j : Nat} {pos p : Pos}
theorem pe1_C : PE1 X (.Constant (.str c) j p) (tC (.str c)) := by
  intro pins s σ H Q I h
  refine Calls.Constant_str ⟨by show 1 ≤ s.toks + 1; omega, .str c, H, I.tok _, ⟨_, rfl⟩, h⟩
theorem pe1_op {op : Operator} {r : R2} (ho : OpR X (binaryOp op) r) (ha : PE1 X e te) (hb : PET X f tf) : PE1 X (.BinOp e op f pos) (tOp r te tf) := by
  intro pins s σ H Q I h
  refine wpAny_BinOp (wpAny_mono (ha pins s σ H _ I h) (fun v s1 q => ?_) fun _ _ z => z)
  obtain ⟨hk, x, H1, I1, r1, q1⟩ := q
  refine wpAny_mono (PySem.wpAny_toks (hb pins s1 σ H1 _ hk I1 q1)) (fun u s2 q => ?_) fun _ _ z => z.2
  obtain ⟨hk2, y, H2, I2, r2, q2⟩ := q
  refine wpAny_mono (PySem.wpAny_toks (ho pins s2 σ H2 x y v u Q I2 r1 r2 q2)) (fun u3 s3 q => ?_) fun _ _ z => z.2
  exact ⟨by have := q.1; omega, q.2⟩
theorem PE1.pe (h : PE1 X e te) : PE X e te := ⟨fun pins s σ H Q I q => wpAny_mono (h pins s σ H Q I q) (fun _ _ z => z.2) fun _ _ z => z⟩
end
abbrev spc (n : Int) : Str := if n = 1 then " " else "  "
def rMulSp : R2 := fun x y H Q => ∃ n : Int, x = .str " " ∧ y = .int n ∧ (n = 1 ∨ n = 2) ∧ Q (.str (spc n)) H
theorem op_mul_sp {X : Cx} : OpR X (binaryOp .Mult) rMulSp := by
  intro pins s σ H x y v u Q I rx ry h
  obtain ⟨n, rfl, rfl, hn, q⟩ := h
  obtain ⟨t, rfl⟩ := rx
  obtain ⟨t', rfl⟩ := ry
  rcases hn with rfl | rfl
  · refine PySem.P.mul_str (by decide) (fun _ h => absurd h (by decide)) (fun _ h => absurd h (by decide)) ?_
    rw [if_neg (by decide), if_pos (by decide)]
    exact ⟨.str " ", H, I, ⟨_, rfl⟩, q⟩
  · refine PySem.P.mul_str (by decide) (fun _ _ => by decide) (fun _ _ => by decide) ?_
    rw [if_neg (by decide), if_neg (by decide)]
    refine ⟨by decide, ?_⟩
    have e : (⟨(List.replicate (2 : Int).toNat (" " : Str).cps).foldl (· ++ ·) #[]⟩ : Str) = "  " := by decide +kernel
    rw [e]
    exact ⟨.str "  ", H, I.tok _, ⟨_, rfl⟩, q⟩
/-! ### texts -/
/-- a sign of a line -/
def okC (c : Nat) : Bool := decide (32 ≤ c) && (decide (c ≤ 126) && !decide (c = 37))
def LnC (z : Str) : Prop := (tl z).all okC = true
theorem LnC.app {a b : Str} (ha : LnC a) (hb : LnC b) : LnC (a ++ b) := by
  unfold LnC
  rw [tl_append, List.all_append]
  exact Bool.and_eq_true_iff.mpr ⟨ha, hb⟩
instance (z : Str) : Decidable (LnC z) := by unfold LnC; infer_instance
theorem Lx.wd {x : Str} {r : List Nat} {ts : List Tk} (h0 : tl x ≠ []) (hw : (tl x).all isW = true) (hs : Stop r) (h : Lx r ts) : Lx (tl x ++ r) (tW x :: ts) := by
  have := Lx.word (w := tl x) h0 (fun c hc => List.all_eq_true.mp hw c hc) hs h
  rwa [S_tl] at this
theorem Lx.wd1 {x : Str} (h0 : tl x ≠ []) (hw : (tl x).all isW = true) : Lx (tl x) [tW x] := by
  have := Lx.wd h0 hw Stop.nil Lx.nil
  rwa [List.append_nil] at this
theorem idn_w {x : Str} (h : idn (tl x) = true) : tl x ≠ [] ∧ (tl x).all isW = true ∧ LnC x ∧ x.length ≤ 12 := by
  unfold idn at h
  obtain ⟨h1, h2⟩ := Bool.and_eq_true_iff.mp h
  have h3 := of_decide_eq_true (Bool.and_eq_true_iff.mp h1).1
  have hm : ∀ c ∈ tl x, c ∈ idnL := by
    rw [List.all_eq_true] at h2
    exact fun c hc => of_decide_eq_true (h2 c hc)
  have key : ∀ c ∈ idnL, isW c = true ∧ okC c = true := by decide +kernel
  refine ⟨fun e => by rw [e] at h3; simp at h3, List.all_eq_true.mpr fun c hc => (key c (hm c hc)).1, List.all_eq_true.mpr fun c hc => (key c (hm c hc)).2, ?_⟩
  rw [len_tl]
  exact h3.2
def escL : List Nat → List Nat
  | [] => []
  | c :: r => if c = 34 then 92 :: 34 :: escL r else if c = 10 then 92 :: 110 :: escL r else c :: escL r
theorem escL_slx : ∀ {l : List Nat}, (∀ c ∈ l, c ≠ 92) → SLx (escL l) l
  | [], _ => .nil
  | c :: r, h => by
    have ih : SLx (escL r) r := escL_slx fun d hd => h d (List.mem_cons_of_mem _ hd)
    unfold escL
    by_cases h1 : c = 34
    · rw [if_pos h1, h1]
      exact .esc .q ih
    · rw [if_neg h1]
      by_cases h2 : c = 10
      · rw [if_pos h2, h2]
        exact .esc .n ih
      · rw [if_neg h2]
        exact .chr h1 (h c List.mem_cons_self) ih
def txL : List Str := ["", "a", "b\n", "x/y", "\"", "yes", "q", "s_1"]
abbrev esc2 (t : Str) : Str := Txt.replace (Txt.replace t "\"" "\\\"") "\n" "\\n"
theorem txF : ∀ t ∈ txL, tl (esc2 t) = escL (tl t) ∧ asc (tl t) = true ∧ (∀ c ∈ tl t, c ≠ 92) ∧ LnC (("\"" : Str) ++ esc2 t ++ ("\"" : Str)) ∧ t.length ≤ 5 ∧ (Txt.replace t "\"" "\\\"").length ≤ 8 ∧ (esc2 t).length ≤ 10 := by decide +kernel
theorem txt_lx {t : Str} (h : t ∈ txL) : Lx (tl (("\"" : Str) ++ esc2 t ++ ("\"" : Str))) [tQ (tl t)] := by
  obtain ⟨h1, _, h3, _⟩ := txF t h
  rw [tl_append, tl_append, h1]
  have e : tl ("\"" : Str) = [34] := by decide +kernel
  rw [e]
  show Lx ((34 :: escL (tl t)) ++ [34]) _
  have := Lx.str (escL_slx h3) Lx.nil
  simpa using this
theorem len_app (a b : Str) : (a ++ b).length = a.length + b.length := by rw [len_tl, tl_append, List.length_append, ← len_tl, ← len_tl]
theorem at_strs {l : List Str} {i : Int} (h0 : 0 ≤ i) (h1 : i < l.length) : ∃ x ∈ l, atI (l.map V.str) i = some (.str x) := by
  obtain ⟨n, rfl⟩ : ∃ n : Nat, i = (n : Nat) := ⟨i.toNat, by omega⟩
  have hn : n < l.length := by omega
  refine ⟨l[n], List.getElem_mem hn, atI_nat ?_⟩
  rw [List.getElem?_map, List.getElem?_eq_getElem hn]
  rfl
def fnL : List Str := ["read", "has", "setting", "not", "upper", "count", "sort", "first", "rest", "same"]
theorem fnF : ∀ f ∈ fnL, tl f ≠ [] ∧ (tl f).all isW = true ∧ LnC f ∧ f.length ≤ 10 ∧ asc (tl f) = true := by decide +kernel
theorem fnA : ∀ f ∈ fnL, (f ≠ "same" → Ar f 1) ∧ (f = "same" → Ar f 2) := by
  intro f hf
  unfold fnL at hf
  have kn : ∀ x ∈ ([("read" : Str), "has", "setting", "not", "upper", "count", "sort", "first", "rest"] : List Str), x ≠ "same" ∧ Ar x 1 := by
    intro x hx
    unfold Ar argV
    rcases List.mem_cons.mp hx with rfl | hx
    · exact ⟨by decide +kernel, by simp⟩
    rcases List.mem_cons.mp hx with rfl | hx
    · exact ⟨by decide +kernel, by simp⟩
    rcases List.mem_cons.mp hx with rfl | hx
    · exact ⟨by decide +kernel, by simp⟩
    rcases List.mem_cons.mp hx with rfl | hx
    · exact ⟨by decide +kernel, by simp⟩
    rcases List.mem_cons.mp hx with rfl | hx
    · exact ⟨by decide +kernel, by simp⟩
    rcases List.mem_cons.mp hx with rfl | hx
    · exact ⟨by decide +kernel, by simp⟩
    rcases List.mem_cons.mp hx with rfl | hx
    · exact ⟨by decide +kernel, by simp⟩
    rcases List.mem_cons.mp hx with rfl | hx
    · exact ⟨by decide +kernel, by simp⟩
    rcases List.mem_cons.mp hx with rfl | hx
    · exact ⟨by decide +kernel, by simp⟩
    cases hx
  by_cases e : f = "same"
  · subst e
    refine ⟨fun h => absurd rfl h, fun _ => ?_⟩
    unfold Ar argV
    simp
  · refine ⟨fun _ => (kn f ?_).2, fun h => absurd h e⟩
    simp at hf ⊢
    rcases hf with h | h | h | h | h | h | h | h | h | h <;> first | exact absurd h e | simp [h]
structure KnOk (kn : List Str) : Prop where
  n0 : kn ≠ []
  len : kn.length ≤ 100
  id : ∀ x ∈ kn, idn (tl x) = true
def bT : Nat → Nat
  | 0 => 12
  | n + 1 => 4 * bT n + 20
/-- a datum and its text, in one tuple -/
def RetX (K : PySem.W.Frag) (H : Hp) (Q : VK) (l : Addr) (X : PyData → Toks → Prop) (b : Nat) : Prop :=
  ∀ H' q ve e ts z, But l H H' → NumL H' l → H' q = some (.tup [ve, .str z]) → Dp K H' ve e → X e ts → Lx (tl z) ts → LnC z → z.length ≤ b → Q (.ref q) H'
section
variable {P : Program} {w : World} {K : PySem.W.Frag} {mg : Str → Option Value} {base : Heap} {φ : Str × Option Str → FuncData}
def spLT (K : PySem.W.Frag) (d : Nat) : Sp := fun vs H Q _ => ∃ (l kl : Addr) (kn : List Str), vs = [.ref l, .ref kl, .int (d : Nat)] ∧ NumL H l ∧ H kl = some (.lst (kn.map V.str)) ∧ kl ≠ l ∧ KnOk kn ∧ RetX K H Q l (TmD d kn) (bT d)
def spLE (K : PySem.W.Frag) (m : Nat) : Sp := fun vs H Q _ => ∃ (d : Nat) (l kl : Addr) (kn : List Str), m = d + 1 ∧ vs = [.ref l, .ref kl, .int (d : Nat)] ∧ NumL H l ∧ H kl = some (.lst (kn.map V.str)) ∧ kl ≠ l ∧ KnOk kn ∧ RetX K H Q l (ExD d kn) (2 * bT d + 2)
theorem NumL.nt {H : Hp} {l : Addr} (h : NumL H l) : Nt (H l) := by
  obtain ⟨ns, h1, _⟩ := h
  rw [h1]
  trivial
theorem NumL.ne {H : Hp} {l p : Addr} (h : NumL H l) (hp : H p = none) : l ≠ p := by
  obtain ⟨ns, h1, _⟩ := h
  exact ne_of_none h1 hp
theorem But.nw {l p : Addr} {H : Hp} (hp : H p = none) (o : HO) : But l H (L2.upd H p o) := But.same (same_new hp o)
theorem ok_law_term (T : Tp w K mg φ) (d : Nat) (hd : d ≤ 2) (G_law_expression : FnOk P w K mg base CX0 (2 * d + 1) (He.ga K "_law_expression") (φ ("_law_expression", none)) P_law_expression (spLE K d)) :
    FnOk P w K mg base CX0 (2 * d + 2) (He.ga K "_law_term") (φ ("_law_term", none)) P_law_term (spLT K d) := by
  have G_law_take := ok_law_take (P := P) (base := base) T
  refine okF T.F_law_term sc_law_term (fun vs H Q E h => ?_) (fun cdv A outer s H vs Q E hr h => ?_)
  · obtain ⟨l, kl, kn, rfl, _⟩ := h
    rfl
  obtain ⟨l, kl, kn, rfl, hN, hkl, hne, ⟨k0, k1, k2⟩, k⟩ := h
  have nd := sc_law_term.nd
  refine ⟨_, (pss_cons (ps_set (i := 3) nd rfl (Or.inl rfl) (pe_call G_law_take (hr.mono (by omega)) rfl T.g_law_take T.k_law_take T.b_law_take .nil pass0 (pa_cons (pv 0) (pa_cons pe_int pa_nil))))
    (C8.pss_cut (ps_if (PW.pt (pw_and (pt_cmpR op_gt (pv 3) pe_int (nomark _)) (pw_and1 (pt_cmpR op_eq (pv 2) pe_int (nomark _))))) 
      (pss_one (ps_set (i := 3) nd rfl (Or.inl rfl) (pe_op op_sub (pv 3) pe_int))) pss_nil)
    (pss_cons (ps_if (pt_cmpR op_eq (pv 3) pe_int (nomark _)) 
      (pss_cons (ps_set (i := 4) nd rfl (Or.inl rfl) (pe_ix ix_list (pe_lst (pa_cons pe_str (pa_cons pe_str (pa_cons pe_str (pa_cons pe_str (pa_cons pe_str (pa_cons pe_str (pa_cons pe_str (pa_cons pe_str pa_nil))))))))) (pe_call G_law_take (hr.mono (by omega)) rfl T.g_law_take T.k_law_take T.b_law_take .nil pass0 (pa_cons (pv 0) (pa_cons pe_int pa_nil))) (fun _ _ => rfl)))
      (pss_one (ps_ret (pe_tup (pa_cons (pe_tup (pa_cons pe_str (pa_cons (pv 4) pa_nil))) (pa_cons (pe_op op_add_str (pe1_op op_add_str pe1_C (CwR.pet_replT (CwR.pet_replC (pv 4) (by decide +kernel)) (by decide +kernel))).pe pe_str) pa_nil)))))) pss_nil)
    (pss_cons (ps_if (pt_cmpR op_lt (pv 3) pe_int (nomark _)) 
      (pss_cons (ps_set (i := 5) nd rfl (Or.inl rfl) (pe_ix ix_list (pv 1) (pe_call G_law_take (hr.mono (by omega)) rfl T.g_law_take T.k_law_take T.b_law_take .nil pass0 (pa_cons (pv 0) (pa_cons (pe_callB call_len_seq (by rfl) T.z_len (by decide +kernel) (pa_cons (pv 1) pa_nil)) pa_nil))) (fun _ _ => rfl)))
      (pss_one (ps_ret (pe_tup (pa_cons (pe_tup (pa_cons pe_str (pa_cons (pv 5) pa_nil))) (pa_cons (pv 5) pa_nil)))))) pss_nil)
    (pss_cons (ps_set (i := 6) nd rfl (Or.inl rfl) (pe_ix ix_list (pe_lst (pa_cons pe_str (pa_cons pe_str (pa_cons pe_str (pa_cons pe_str (pa_cons pe_str (pa_cons pe_str (pa_cons pe_str (pa_cons pe_str (pa_cons pe_str (pa_cons pe_str pa_nil))))))))))) (pe_call G_law_take (hr.mono (by omega)) rfl T.g_law_take T.k_law_take T.b_law_take .nil pass0 (pa_cons (pv 0) (pa_cons pe_int pa_nil))) (fun _ _ => rfl)))
    (pss_cons (ps_set (i := 7) nd rfl (Or.inl rfl) (pe_call G_law_expression (hr.mono (by omega)) rfl T.g_law_expression T.k_law_expression T.b_law_expression .nil pass0 (pa_cons (pv 0) (pa_cons (pv 1) (pa_cons (pe_op op_sub (pv 2) pe_int) pa_nil)))))
    (pss_cons (ps_if (pt_cmpR op_ne (pv 6) pe_str (nomark _)) 
      (pss_one (ps_ret (pe_tup (pa_cons (pe_tup (pa_cons pe_str (pa_cons (pv 6) (pa_cons (pe_tup (pa_cons (pe_ix ix_tup (pv 7) pe_int (fun _ _ => rfl)) pa_nil)) pa_nil)))) (pa_cons (pe_op op_add_str (pe_op op_add_str (pe_op op_add_str (pv 6) pe_str) (pe_ix ix_tup (pv 7) pe_int (fun _ _ => rfl))) pe_str) pa_nil))))) pss_nil)
    (pss_cons (ps_set (i := 8) nd rfl (Or.inl rfl) (pe_call G_law_expression (hr.mono (by omega)) rfl T.g_law_expression T.k_law_expression T.b_law_expression .nil pass0 (pa_cons (pv 0) (pa_cons (pv 1) (pa_cons (pe_op op_sub (pv 2) pe_int) pa_nil)))))
    (pss_one (ps_ret (pe_tup (pa_cons (pe_tup (pa_cons pe_str (pa_cons (pv 6) (pa_cons (pe_tup (pa_cons (pe_ix ix_tup (pv 7) pe_int (fun _ _ => rfl)) (pa_cons (pe_ix ix_tup (pv 8) pe_int (fun _ _ => rfl)) pa_nil))) pa_nil)))) (pa_cons (pe_op op_add_str (pe_op op_add_str (pe_op op_add_str (pe_op op_add_str (pe_op op_add_str (pv 6) pe_str) (pe_ix ix_tup (pv 7) pe_int (fun _ _ => rfl))) pe_str) (pe_ix ix_tup (pv 8) pe_int (fun _ _ => rfl))) pe_str) pa_nil))))))))))))), ?_⟩
  refine ⟨_, rfl, l, 5, rfl, by decide, hN, fun H1 i1 hB1 hN1 h0 h1 => ?_⟩
  refine ⟨fun σ' H' => ∃ i2 : Int, 0 ≤ i2 ∧ i2 < 5 ∧ (d = 0 → i2 ≤ 2) ∧ H' = H1 ∧ σ' = [some (.ref l), some (.ref kl), some (.int (d : Nat)), some (.int i2), none, none, none, none, none], ?_, ?_⟩
  · refine ⟨_, rfl, _, _, rfl, rfl, _, rfl, it2 (fun hgt => ⟨_, rfl, rfl, _, rfl, it2 (fun he => ⟨_, rfl, _, _, rfl, rfl, ?_⟩) fun he => ?_⟩) fun hgt => ?_⟩
    · have h2 := of_decide_eq_true hgt
      exact ⟨i1 - 3, by omega, by omega, fun _ => by omega, rfl, rfl⟩
    · have h2 := of_decide_eq_false he
      exact ⟨i1, h0, h1, fun z => absurd (by rw [z] <;> rfl) h2, rfl, rfl⟩
    · have h2 := of_decide_eq_false hgt
      exact ⟨i1, h0, h1, fun z => by omega, rfl, rfl⟩
  rintro σ' H' ⟨i2, hi0, hi1, hi2, rfl, rfl⟩
  have hkl1 : H' kl = some (.lst (kn.map V.str)) := hB1 _ _ hkl hne
  by_cases e0 : i2 = 0
  · -- a text
    subst e0
    refine ⟨_, rfl, rfl, _, rfl, itT rfl ?_⟩
    refine ⟨by decide, fun p hp => ?_⟩
    have s2 := same_new hp (.lst (txL.map V.str))
    have npl : p ≠ l := (hN1.ne hp).symm
    refine ⟨_, rfl, l, 8, rfl, by decide, hN1.same s2, fun H2 j hB2 hN2 j0 j1 => ?_⟩
    obtain ⟨x, hx, ha⟩ := at_strs (l := txL) j0 j1
    refine ⟨p, _, _, _, rfl, rfl, SqL.of (hB2 _ _ upd_same npl), ha, ?_⟩
    obtain ⟨f1, f2, f3, f4, f5, f6, f7⟩ := txF x hx
    refine ⟨_, rfl, by show 2 ≤ sizeLine; decide, fun q1 hq1 => ?_⟩
    have s3 := same_new hq1 (.tup [.str "text", .str x])
    refine ⟨_, rfl, x, rfl, ?_, _, rfl, ?_, _, _, rfl, rfl, ?_, _, _, rfl, rfl, ?_, ?_⟩
    · show x.length + (x.length + 1) * 2 ≤ 16777216
      omega
    · show (Txt.replace x "\"" "\\\"").length + ((Txt.replace x "\"" "\\\"").length + 1) * 2 ≤ 16777216
      omega
    · show 1 + (esc2 x).length ≤ sizeLine
      exact sz (by omega)
    · show (("\"" : Str) ++ esc2 x).length + 1 ≤ sizeLine
      have : (("\"" : Str) ++ esc2 x).length = 1 + (esc2 x).length := len_app _ _
      exact sz (by omega)
    refine ⟨by show 2 ≤ sizeLine; decide, fun q2 hq2 => ?_⟩
    have s4 := same_new hq2 (.tup [.ref q1, .str (("\"" : Str) ++ esc2 x ++ ("\"" : Str))])
    refine k _ q2 (.ref q1) (.tuple [dS "text", dS x]) [tQ (tl x)] _ (hB1.trans ((But.same s2).trans (hB2.trans (But.same (s3.trans s4))))) (hN2.same (s3.trans s4)) upd_same (dp_same s4 _ _ (dp_tup upd_same (.cons (.str _) (.cons (.str _) .nil)))) ?_ (txt_lx hx) f4 ?_
    · rw [tmD_eq]
      exact .inl ⟨tl x, f2, by rw [S_tl], rfl⟩
    · show (("\"" : Str) ++ esc2 x ++ ("\"" : Str)).length ≤ bT d
      have e1 : (("\"" : Str) ++ esc2 x ++ ("\"" : Str)).length = 1 + (esc2 x).length + 1 := by
        rw [len_app, len_app] <;> rfl
      have : 12 ≤ bT d := by cases d <;> unfold bT <;> omega
      omega
  refine ⟨_, rfl, rfl, _, rfl, itF (decide_eq_false fun z => e0 (V.int.inj z)) ?_⟩
  by_cases e3 : i2 < 3
  · -- a name
    refine ⟨_, rfl, _, _, rfl, rfl, _, rfl, itT (decide_eq_true e3) ?_⟩
    have hkp : 0 < kn.length := List.length_pos_iff.mpr k0
    refine ⟨_, rfl, _, rfl, _, rfl, kl, _, rfl, .inl (SqL.of hkl1), l, _, rfl, by rw [List.length_map]; omega, hN1, fun H2 j hB2 hN2 j0 j1 => ?_⟩
    rw [List.length_map] at j1
    obtain ⟨x, hx, ha⟩ := at_strs (l := kn) j0 j1
    have hid := k2 x hx
    obtain ⟨w1, w2, w3, w4⟩ := idn_w hid
    refine ⟨kl, _, _, _, rfl, rfl, SqL.of (hB2 _ _ hkl1 hne), ha, ?_⟩
    refine ⟨_, rfl, by show 2 ≤ sizeLine; decide, fun q1 hq1 => ?_⟩
    have s3 := same_new hq1 (.tup [.str "name", .str x])
    refine ⟨_, rfl, by show 2 ≤ sizeLine; decide, fun q2 hq2 => ?_⟩
    have s4 := same_new hq2 (.tup [.ref q1, .str x])
    refine k _ q2 (.ref q1) (.tuple [dS "name", dS x]) [tW x] _ (hB1.trans (hB2.trans (But.same (s3.trans s4)))) (hN2.same (s3.trans s4)) upd_same (dp_same s4 _ _ (dp_tup upd_same (.cons (.str _) (.cons (.str _) .nil)))) ?_ (Lx.wd1 w1 w2) w3 ?_
    · rw [tmD_eq]
      exact .inr (.inl ⟨x, hx, hid, rfl, rfl⟩)
    · have : 12 ≤ bT d := by cases d <;> unfold bT <;> omega
      omega
  -- a call
  refine ⟨_, rfl, _, _, rfl, rfl, _, rfl, itF (decide_eq_false e3) ?_⟩
  obtain ⟨m, rfl⟩ : ∃ m, d = m + 1 := by
    cases d with
    | zero => have := hi2 rfl; omega
    | succ m => exact ⟨m, rfl⟩
  refine ⟨by decide, fun p hp => ?_⟩
  have s2 := same_new hp (.lst (fnL.map V.str))
  have npl : p ≠ l := (hN1.ne hp).symm
  refine ⟨_, rfl, l, 10, rfl, by decide, hN1.same s2, fun H2 j hB2 hN2 j0 j1 => ?_⟩
  obtain ⟨f, hf, ha⟩ := at_strs (l := fnL) j0 j1
  refine ⟨p, _, _, _, rfl, rfl, SqL.of (hB2 _ _ upd_same npl), ha, ?_⟩
  obtain ⟨f1, f2, f3, f4, f5⟩ := fnF f hf
  obtain ⟨a1, a2⟩ := fnA f hf
  have hkl2 : H2 kl = some (.lst (kn.map V.str)) := hB2 _ _ (s2 _ _ hkl1) hne
  have edm : ((m + 1 : Nat) : Int) - 1 = ((m : Nat) : Int) := by omega
  refine ⟨_, rfl, _, rfl, _, rfl, _, _, rfl, rfl, m, l, kl, kn, rfl, ?_, hN2, hkl2, hne, ⟨k0, k1, k2⟩, fun H3 q3 v3 x3 t3 z3 hB3 hN3 hq3 hd3 hx3 hl3 hc3 hz3 => ?_⟩
  · exact congrArg (fun y : Int => [V.ref l, V.ref kl, V.int y]) edm
  have hE3 : (2 * bT m + 2) ≤ 700 := by
    have : m = 0 ∨ m = 1 := by omega
    rcases this with rfl | rfl <;> decide
  have hfl : f.length ≤ 10 := f4
  have p40 : ("(" : Str).length = 1 ∧ (")" : Str).length = 1 ∧ ("( " : Str).length = 2 ∧ (" ," : Str).length = 2 := by decide +kernel
  have t40 : tl ("(" : Str) = [40] ∧ tl (")" : Str) = [41] ∧ tl ("( " : Str) = [40, 32] ∧ tl (" ," : Str) = [32, 44] := by decide +kernel
  have c40 : LnC ("(" : Str) ∧ LnC (")" : Str) ∧ LnC ("( " : Str) ∧ LnC (" ," : Str) := by decide +kernel
  have w40 : isW 40 = false ∧ isW 41 = false ∧ isW 32 = false := by decide +kernel
  by_cases es : f = "same"
  · refine ⟨_, rfl, rfl, _, rfl, itF (by subst es; decide +kernel) ?_⟩
    have hkl3 : H3 kl = some (.lst (kn.map V.str)) := hB3 _ _ hkl2 hne
    refine ⟨_, rfl, _, rfl, _, rfl, _, _, rfl, rfl, m, l, kl, kn, rfl, congrArg (fun y : Int => [V.ref l, V.ref kl, V.int y]) edm, hN3, hkl3, hne, ⟨k0, k1, k2⟩, fun H4 q4 v4 x4 t4 z4 hB4 hN4 hq4 hd4 hx4 hl4 hc4 hz4 => ?_⟩
    have hq3' : H4 q3 = some (.tup [v3, .str z3]) := (hB4.fk hN3.nt).t _ _ hq3
    refine ⟨_, rfl, _, rfl, q3, _, _, _, rfl, rfl, .inl (.inl hq3'), rfl, _, rfl, q4, _, _, _, rfl, rfl, .inl (.inl hq4), rfl, by show 2 ≤ sizeLine; decide, fun p1 hp1 => ?_⟩
    have s5 := same_new hp1 (.tup [v3, v4])
    refine ⟨by show 3 ≤ sizeLine; decide, fun p2 hp2 => ?_⟩
    have s6 := same_new hp2 (.tup [.str "call", .str f, .ref p1])
    have s7 := s5.trans s6
    refine ⟨_, rfl, _, _, rfl, rfl, sz (by omega), _, rfl, q3, _, _, _, rfl, rfl, .inl (.inl (s7 _ _ hq3')), rfl, _, _, rfl, rfl, sz (by simp only [len_app]; omega), _, _, rfl, rfl, sz (by simp only [len_app]; omega), _, rfl, q4, _, _, _, rfl, rfl, .inl (.inl (s7 _ _ hq4)), rfl, _, _, rfl, rfl, sz (by simp only [len_app]; omega), _, _, rfl, rfl, sz (by simp only [len_app]; omega), ?_⟩
    refine ⟨by show 2 ≤ sizeLine; decide, fun p3 hp3 => ?_⟩
    have s8 := same_new hp3 (.tup [.ref p2, .str (f ++ ("( " : Str) ++ z3 ++ (" ," : Str) ++ z4 ++ (")" : Str))])
    have hd3' := (hB4.fk hN3.nt).dp (exD_good hx3).tup hd3
    refine k _ p3 (.ref p2) (.tuple [dS "call", dS f, .tuple [x3, x4]]) (tW f :: tG 40 :: ((t3 ++ tG 44 :: t4) ++ [tG 41])) _ (hB1.trans ((But.same s2).trans (hB2.trans (hB3.trans (hB4.trans (But.same (s7.trans s8))))))) (hN4.same (s7.trans s8)) upd_same (dp_same s8 _ _ (dp_tup upd_same (.cons (.str _) (.cons (.str _) (.cons (dp_same s6 _ _ (dp_tup upd_same (.cons (dp_same s5 _ _ hd3') (.cons (dp_same s5 _ _ hd4) .nil)))) .nil))))) ?_ ?_ ?_ ?_
    · rw [tmD_eq]
      exact .inr (.inr ⟨f, [x3, x4], t3 ++ tG 44 :: t4, a2 es, f5, ⟨t3, t4, hx3, hx4, rfl⟩, rfl, rfl⟩)
    · simp only [tl_append, t40.1, t40.2.1, t40.2.2.1, t40.2.2.2]
      have e : tl f ++ [40, 32] ++ tl z3 ++ [32, 44] ++ tl z4 ++ [41] = tl f ++ (40 :: 32 :: (tl z3 ++ (32 :: 44 :: (tl z4 ++ [41])))) := by simp
      rw [e]
      have h4 := Lx.app hl4 (Lx.sg (c := 41) (by decide) Lx.nil) (Stop.cons w40.2.1)
      have h3 := Lx.app hl3 (Lx.sp (Lx.sg (c := 44) (by decide) h4)) (Stop.cons w40.2.2)
      have h5 := Lx.wd f1 f2 (Stop.cons w40.1) (Lx.sg (c := 40) (by decide) (Lx.sp h3))
      have e2 : tW f :: tG 40 :: (t3 ++ tG 44 :: t4 ++ [tG 41]) = tW f :: tG 40 :: (t3 ++ tG 44 :: (t4 ++ [tG 41])) := by simp
      rw [e2]
      exact h5
    · exact ((((f3.app c40.2.2.1).app hc3).app c40.2.2.2).app hc4).app c40.2.1
    · simp only [len_app]
      show f.length + ("( " : Str).length + z3.length + (" ," : Str).length + z4.length + (")" : Str).length ≤ 4 * bT m + 20
      omega
  · refine ⟨_, rfl, rfl, _, rfl, itT ?_ ?_⟩
    · show (!decide (V.str f = V.str "same")) = true
      rw [decide_eq_false fun z => es (V.str.inj z)] <;> rfl
    refine ⟨_, rfl, _, rfl, q3, _, _, _, rfl, rfl, .inl (.inl hq3), rfl, by show 1 ≤ sizeLine; decide, fun p1 hp1 => ?_⟩
    have s5 := same_new hp1 (.tup [v3])
    refine ⟨by show 3 ≤ sizeLine; decide, fun p2 hp2 => ?_⟩
    have s6 := same_new hp2 (.tup [.str "call", .str f, .ref p1])
    have s7 := s5.trans s6
    refine ⟨_, rfl, _, _, rfl, rfl, sz (by omega), _, rfl, q3, _, _, _, rfl, rfl, .inl (.inl (s7 _ _ hq3)), rfl, _, _, rfl, rfl, sz (by simp only [len_app]; omega), _, _, rfl, rfl, sz (by simp only [len_app]; omega), ?_⟩
    refine ⟨by show 2 ≤ sizeLine; decide, fun p3 hp3 => ?_⟩
    have s8 := same_new hp3 (.tup [.ref p2, .str (f ++ ("(" : Str) ++ z3 ++ (")" : Str))])
    refine k _ p3 (.ref p2) (.tuple [dS "call", dS f, .tuple [x3]]) (tW f :: tG 40 :: (t3 ++ [tG 41])) _ (hB1.trans ((But.same s2).trans (hB2.trans (hB3.trans (But.same (s7.trans s8)))))) (hN3.same (s7.trans s8)) upd_same (dp_same s8 _ _ (dp_tup upd_same (.cons (.str _) (.cons (.str _) (.cons (dp_same s6 _ _ (dp_tup upd_same (.cons (dp_same s5 _ _ hd3) .nil))) .nil))))) ?_ ?_ ?_ ?_
    · rw [tmD_eq]
      exact .inr (.inr ⟨f, [x3], t3, a1 es, f5, hx3, rfl, rfl⟩)
    · simp only [tl_append, t40.1, t40.2.1]
      have e : tl f ++ [40] ++ tl z3 ++ [41] = tl f ++ (40 :: (tl z3 ++ [41])) := by simp
      rw [e]
      have h3 := Lx.app hl3 (Lx.sg (c := 41) (by decide) Lx.nil) (Stop.cons w40.2.1)
      exact Lx.wd f1 f2 (Stop.cons w40.1) (Lx.sg (c := 40) (by decide) h3)
    · exact ((f3.app c40.1).app hc3).app c40.2.1
    · simp only [len_app]
      show f.length + ("(" : Str).length + z3.length + (")" : Str).length ≤ 4 * bT m + 20
      omega
theorem ok_law_expression (T : Tp w K mg φ) (d : Nat) (hd : d ≤ 2) (G_law_term : FnOk P w K mg base CX0 (2 * d + 2) (He.ga K "_law_term") (φ ("_law_term", none)) P_law_term (spLT K d)) :
    FnOk P w K mg base CX0 (2 * d + 3) (He.ga K "_law_expression") (φ ("_law_expression", none)) P_law_expression (spLE K (d + 1)) := by
  have G_law_take := ok_law_take (P := P) (base := base) T
  refine okF T.F_law_expression sc_law_expression (fun vs H Q E h => ?_) (fun cdv A outer s H vs Q E hr h => ?_)
  · obtain ⟨d, l, kl, kn, _, rfl, _⟩ := h
    rfl
  obtain ⟨d', l, kl, kn, hdd, rfl, hN, hkl, hne, ⟨k0, k1, k2⟩, k⟩ := h
  obtain rfl : d = d' := by omega
  have nd := sc_law_expression.nd
  refine ⟨_, (pss_cons (ps_set (i := 3) nd rfl (Or.inl rfl) (pe_call G_law_term (hr.mono (by omega)) rfl T.g_law_term T.k_law_term T.b_law_term .nil pass0 (pa_cons (pv 0) (pa_cons (pv 1) (pa_cons (pv 2) pa_nil)))))
    (pss_cons (ps_if (pt_cmpR op_ne (pe_call G_law_take (hr.mono (by omega)) rfl T.g_law_take T.k_law_take T.b_law_take .nil pass0 (pa_cons (pv 0) (pa_cons pe_int pa_nil))) pe_int (nomark _)) 
      (pss_one (ps_ret (pv 3))) pss_nil)
    (pss_cons (ps_set (i := 4) nd rfl (Or.inl rfl) (pe_call G_law_term (hr.mono (by omega)) rfl T.g_law_term T.k_law_term T.b_law_term .nil pass0 (pa_cons (pv 0) (pa_cons (pv 1) (pa_cons (pv 2) pa_nil)))))
    (pss_one (ps_ret (pe_tup (pa_cons (pe_tup (pa_cons pe_str (pa_cons (pe_tup (pa_cons (pe_ix ix_tup (pv 3) pe_int (fun _ _ => rfl)) (pa_cons (pe_ix ix_tup (pv 4) pe_int (fun _ _ => rfl)) pa_nil))) pa_nil))) (pa_cons (pe_op op_add_str (pe_op op_add_str (pe_ix ix_tup (pv 3) pe_int (fun _ _ => rfl)) pe_str) (pe_ix ix_tup (pv 4) pe_int (fun _ _ => rfl))) pa_nil)))))))), ?_⟩
  have hT3 : bT d ≤ 300 := by
    have : d = 0 ∨ d = 1 ∨ d = 2 := by omega
    rcases this with rfl | rfl | rfl <;> decide
  refine ⟨_, rfl, _, rfl, _, rfl, l, kl, kn, rfl, hN, hkl, hne, ⟨k0, k1, k2⟩, fun H1 q1 v1 x1 t1 z1 hB1 hN1 hq1 hd1 hx1 hl1 hc1 hz1 => ?_⟩
  refine ⟨_, rfl, l, 4, rfl, by decide, hN1, fun H2 j hB2 hN2 j0 j1 => ⟨rfl, _, rfl, ?_⟩⟩
  have hq1' : H2 q1 = some (.tup [v1, .str z1]) := (hB2.fk hN1.nt).t _ _ hq1
  have hd1' := (hB2.fk hN1.nt).dp (tmD_good hx1).tup hd1
  by_cases ej : j = 1
  · subst ej
    refine itF rfl ?_
    have hkl2 : H2 kl = some (.lst (kn.map V.str)) := hB2 _ _ (hB1 _ _ hkl hne) hne
    refine ⟨_, rfl, _, rfl, _, rfl, l, kl, kn, rfl, hN2, hkl2, hne, ⟨k0, k1, k2⟩, fun H4 q4 v4 x4 t4 z4 hB4 hN4 hq4 hd4 hx4 hl4 hc4 hz4 => ?_⟩
    have f4 := hB4.fk hN2.nt
    have hq3' : H4 q1 = some (.tup [v1, .str z1]) := f4.t _ _ hq1'
    have hd3' := f4.dp (tmD_good hx1).tup hd1'
    refine ⟨_, rfl, q1, _, _, _, rfl, rfl, .inl (.inl hq3'), rfl, _, rfl, q4, _, _, _, rfl, rfl, .inl (.inl hq4), rfl, by show 2 ≤ sizeLine; decide, fun p1 hp1 => ?_⟩
    have s5 := same_new hp1 (.tup [v1, v4])
    refine ⟨by show 2 ≤ sizeLine; decide, fun p2 hp2 => ?_⟩
    have s6 := same_new hp2 (.tup [.str "join", .ref p1])
    have s7 := s5.trans s6
    have p43 : ("+ " : Str).length = 2 := by decide +kernel
    have t43 : tl ("+ " : Str) = [43, 32] := by decide +kernel
    have c43 : LnC ("+ " : Str) := by decide +kernel
    refine ⟨_, rfl, q1, _, _, _, rfl, rfl, .inl (.inl (s7 _ _ hq3')), rfl, _, _, rfl, rfl, sz (by omega), _, rfl, q4, _, _, _, rfl, rfl, .inl (.inl (s7 _ _ hq4)), rfl, _, _, rfl, rfl, sz (by simp only [len_app]; omega), ?_⟩
    refine ⟨by show 2 ≤ sizeLine; decide, fun p3 hp3 => ?_⟩
    have s8 := same_new hp3 (.tup [.ref p2, .str (z1 ++ ("+ " : Str) ++ z4)])
    refine k _ p3 (.ref p2) (.tuple [dS "join", .tuple [x1, x4]]) (t1 ++ tG 43 :: t4) _ (hB1.trans (hB2.trans (hB4.trans (But.same (s7.trans s8))))) (hN4.same (s7.trans s8)) upd_same (dp_same s8 _ _ (dp_tup upd_same (.cons (.str _) (.cons (dp_same s6 _ _ (dp_tup upd_same (.cons (dp_same s5 _ _ hd3') (.cons (dp_same s5 _ _ hd4) .nil)))) .nil)))) ?_ ?_ ?_ ?_
    · rw [exD_eq]
      exact .inr ⟨x1, x4, t1, t4, hx1, hx4, rfl, rfl⟩
    · simp only [tl_append, t43]
      have e : tl z1 ++ [43, 32] ++ tl z4 = tl z1 ++ (43 :: 32 :: tl z4) := by simp
      rw [e]
      exact Lx.app hl1 (Lx.sg (c := 43) (by decide) (Lx.sp hl4)) (Stop.cons (by decide +kernel))
    · exact (hc1.app c43).app hc4
    · simp only [len_app]
      omega
  · refine itT ?_ ⟨_, rfl, k H2 q1 v1 x1 t1 z1 (hB1.trans hB2) hN2 hq1' hd1' (by rw [exD_eq]; exact .inl hx1) hl1 hc1 (by omega)⟩
    show (!decide (V.int j = V.int 1)) = true
    rw [decide_eq_false fun z => ej (V.int.inj z)] <;> rfl
/-- the recursion: expressions of depth d - 1 -/
theorem ok_law_exprs (T : Tp w K mg φ) : ∀ d : Nat, d ≤ 3 → FnOk P w K mg base CX0 (2 * d + 1) (He.ga K "_law_expression") (φ ("_law_expression", none)) P_law_expression (spLE K d)
  | 0, _ => fnOk_never fun vs H Q E h => by
      obtain ⟨d, l, kl, kn, h, _⟩ := h
      omega
  | d + 1, h => ok_law_expression T d (by omega) (ok_law_term T d (by omega) (ok_law_exprs T d (by omega)))
end
end Ky

/-! The law's statements and blocks. -/
namespace Ky
open PySem PySem.Spec PyProof.Rows L2 TL
theorem argL_mono {X Y : PyData → Toks → Prop} (h : ∀ e ts, X e ts → Y e ts) : ∀ {es : List PyData} {ts : Toks}, ArgL X es ts → ArgL Y es ts
  | [], _, z => z.elim
  | [e], ts, z => h e ts z
  | e :: f :: es, ts, ⟨a, b, h1, h2, h3⟩ => ⟨a, b, h e a h1, argL_mono h h2, h3⟩
theorem tmD_mono : ∀ {n : Nat} {kn : List Str} {e : PyData} {ts : Toks}, TmD n kn e ts → TmD (n + 1) kn e ts
  | 0, kn, e, ts, h => by
    rw [tmD_eq] at h ⊢
    rcases h with h | h | h
    · exact .inl h
    · exact .inr (.inl h)
    · exact (show False from h).elim
  | n + 1, kn, e, ts, h => by
    rw [tmD_eq] at h ⊢
    rcases h with h | h | ⟨f, es, tss, h1, h2, h3, h4, h5⟩
    · exact .inl h
    · exact .inr (.inl h)
    · refine .inr (.inr ⟨f, es, tss, h1, h2, argL_mono (fun e ts z => ?_) h3, h4, h5⟩)
      rw [exD_eq] at z ⊢
      rcases z with z | ⟨a, b, ta, tb, z1, z2, z3, z4⟩
      · exact .inl (tmD_mono z)
      · exact .inr ⟨a, b, ta, tb, tmD_mono z1, tmD_mono z2, z3, z4⟩
theorem exD_mono {n : Nat} {kn : List Str} {e : PyData} {ts : Toks} (z : ExD n kn e ts) : ExD (n + 1) kn e ts := by
  rw [exD_eq] at z ⊢
  rcases z with z | ⟨a, b, ta, tb, z1, z2, z3, z4⟩
  · exact .inl (tmD_mono z)
  · exact .inr ⟨a, b, ta, tb, tmD_mono z1, tmD_mono z2, z3, z4⟩
/-- a block from its front on, with the names behind it -/
inductive BlkE (St : Stm) (kn : List Str) : List PyData → List Toks → Nat → List Str → Prop
  | nil : BlkE St kn [] [] 0 kn
  | snoc {kn1 kn2 : List Str} {d : PyData} {ds : List PyData} {ls lss : List Toks} {c c' : Nat} : BlkE St kn ds lss c kn1 → St kn1 d ls kn2 c' → BlkE St kn (ds ++ [d]) (lss ++ ls) (c + c') kn2
theorem blkE_app {St : Stm} {kn kn1 : List Str} {ds ds2 : List PyData} {ls ls2 : List Toks} {c c2 : Nat} (h : BlkE St kn ds ls c kn1) : Blk St kn1 ds2 ls2 c2 → Blk St kn (ds ++ ds2) (ls ++ ls2) (c + c2) := by
  induction h generalizing ds2 ls2 c2 with
  | nil => intro z; rwa [Nat.zero_add]
  | snoc _ hs ih =>
    intro z
    have := ih (.cons hs z)
    simpa [Nat.add_assoc] using this
theorem blkE_blk {St : Stm} {kn kn1 : List Str} {ds : List PyData} {ls : List Toks} {c : Nat} (h : BlkE St kn ds ls c kn1) : Blk St kn ds ls c := by
  have := blkE_app h .nil
  simpa using this
/-- the lines and their tokens -/
def LLs : List Str → List Toks → Prop
  | [], [] => True
  | z :: zs, t :: ts => (LL (tl z) t ∧ LnC z ∧ z.length ≤ 700) ∧ LLs zs ts
  | _, _ => False
theorem LLs.app : ∀ {zs ys : List Str} {ts us : List Toks}, LLs zs ts → LLs ys us → LLs (zs ++ ys) (ts ++ us)
  | [], _, [], _, _, h => h
  | _ :: _, _, _ :: _, _, ⟨h1, h2⟩, h => ⟨h1, h2.app h⟩
theorem LLs.one {z : Str} {t : Toks} (h : LL (tl z) t) (h2 : LnC z) (h3 : z.length ≤ 700) : LLs [z] [t] := ⟨⟨h, h2, h3⟩, trivial⟩
/-! ### lines -/
theorem skp_sp (l : List Nat) : skp (32 :: l) = skp l := by unfold skp; rfl
theorem skp_c {c : Nat} {l : List Nat} (h1 : c ≠ 32) (h2 : c ≠ 35) : skp (c :: l) = false := by
  unfold skp
  have e : List.dropWhile (· == 32) (c :: l) = c :: l := by
    rw [List.dropWhile_cons]
    have : (c == 32) = false := beq_eq_false_iff_ne.mpr h1
    rw [this]
    rfl
  rw [e]
  exact beq_eq_false_iff_ne.mpr h2
theorem spc_tl (n : Int) : tl (spc n) = [32] ∨ tl (spc n) = [32, 32] := by
  unfold spc
  split
  · exact .inl (by decide +kernel)
  · exact .inr (by decide +kernel)
theorem spc_skp (n : Int) (l : List Nat) : skp (tl (spc n) ++ l) = skp l := by
  rcases spc_tl n with e | e <;> rw [e] <;> rfl
theorem spc_lx {n : Int} {l : List Nat} {ts : Toks} (h : Lx l ts) : Lx (tl (spc n) ++ l) ts := by
  rcases spc_tl n with e | e <;> rw [e]
  · exact .sp h
  · exact .sp (.sp h)
theorem spc_stop (n : Int) (l : List Nat) : Stop (tl (spc n) ++ l) := by
  rcases spc_tl n with e | e <;> rw [e] <;> exact Stop.cons (by decide +kernel)
theorem spc_lnc (n : Int) : LnC (spc n) := by
  unfold LnC
  rcases spc_tl n with e | e <;> rw [e] <;> decide +kernel
theorem spc_len (n : Int) : (spc n).length ≤ 2 := by
  rw [len_tl]
  rcases spc_tl n with e | e <;> rw [e] <;> decide
/-- a word of the language -/
structure Wd (x : Str) : Prop where
  n0 : tl x ≠ []
  w : (tl x).all isW = true
  ln : LnC x
  len : x.length ≤ 12
  nsk : ∀ r, skp (tl x ++ r) = false
def wdB (x : Str) : Bool := (match tl x with | [] => false | c :: _ => !decide (c = 32) && !decide (c = 35)) && ((tl x).all isW && (decide (LnC x) && decide (x.length ≤ 12)))
theorem wd_of {x : Str} (h : wdB x = true) : Wd x := by
  unfold wdB at h
  obtain ⟨h1, h⟩ := Bool.and_eq_true_iff.mp h
  obtain ⟨h2, h⟩ := Bool.and_eq_true_iff.mp h
  obtain ⟨h3, h4⟩ := Bool.and_eq_true_iff.mp h
  refine ⟨fun e => (by rw [e] at h1; cases h1), h2, of_decide_eq_true h3, of_decide_eq_true h4, fun r => ?_⟩
  cases e : tl x with
  | nil => rw [e] at h1; cases h1
  | cons c l =>
    rw [e] at h1
    obtain ⟨a, b⟩ := Bool.and_eq_true_iff.mp h1
    refine skp_c (fun z => ?_) fun z => ?_
    · rw [z] at a; cases a
    · rw [z] at b; cases b
theorem wd_id {x : Str} (h : idn (tl x) = true) : Wd x := by
  obtain ⟨h1, h2, h3, h4⟩ := idn_w h
  refine ⟨h1, h2, h3, h4, fun r => ?_⟩
  cases e : tl x with
  | nil => exact absurd e h1
  | cons c l =>
    have hc : isW c = true := List.all_eq_true.mp h2 c (by rw [e]; exact List.mem_cons_self)
    have hi : c ∈ letL := by
      unfold idn at h
      rw [e] at h
      exact of_decide_eq_true (Bool.and_eq_true_iff.mp (Bool.and_eq_true_iff.mp h).1).2
    have key : ∀ c ∈ letL, c ≠ 32 ∧ c ≠ 35 := by decide +kernel
    exact skp_c (key c hi).1 (key c hi).2
theorem num_str : ∀ k ∈ ([1, 2, 3] : List Nat), (toString ((k : Nat) : Int) : Str) = numZ k ∧ wdB (numZ k) = true := by decide +kernel
theorem ln_put {n : Int} {k : Nat} {z : Str} {ts : Toks} (hk : wdB (numZ k) = true) (hz : Lx (tl z) ts) : LL (tl (spc n ++ ("put " : Str) ++ numZ k ++ spc n ++ z)) (tW "put" :: tW (numZ k) :: ts) := by
  have e0 : tl ("put " : Str) = tl ("put" : Str) ++ [32] := by decide +kernel
  have w1 : Wd "put" := wd_of (by decide +kernel)
  have w2 := wd_of hk
  simp only [tl_append, e0]
  have e : tl (spc n) ++ (tl ("put" : Str) ++ [32]) ++ tl (numZ k) ++ tl (spc n) ++ tl z = tl (spc n) ++ (tl ("put" : Str) ++ (32 :: (tl (numZ k) ++ (tl (spc n) ++ tl z)))) := by simp
  rw [e]
  refine .inr ⟨by rw [spc_skp]; exact w1.nsk _, spc_lx (Lx.wd w1.n0 w1.w (Stop.cons (by decide +kernel)) (.sp (Lx.wd w2.n0 w2.w (spc_stop _ _) (spc_lx hz))))⟩
theorem ln_let {n : Int} {x z : Str} {ts : Toks} (hx : idn (tl x) = true) (hz : Lx (tl z) ts) : LL (tl (("let" : Str) ++ spc n ++ x ++ (" " : Str) ++ z)) (tW "let" :: tW x :: ts) := by
  have e0 : tl (" " : Str) = [32] := by decide +kernel
  have w1 : Wd "let" := wd_of (by decide +kernel)
  have w2 := wd_id hx
  simp only [tl_append, e0]
  have e : tl ("let" : Str) ++ tl (spc n) ++ tl x ++ [32] ++ tl z = tl ("let" : Str) ++ (tl (spc n) ++ (tl x ++ (32 :: tl z))) := by simp
  rw [e]
  exact .inr ⟨w1.nsk _, Lx.wd w1.n0 w1.w (spc_stop _ _) (spc_lx (Lx.wd w2.n0 w2.w (Stop.cons (by decide +kernel)) (.sp hz)))⟩
theorem ln_each {n : Int} {x z : Str} {ts : Toks} (hx : idn (tl x) = true) (hz : Lx (tl z) ts) : LL (tl (("each " : Str) ++ x ++ (" in" : Str) ++ spc n ++ z)) (tW "each" :: tW x :: tW "in" :: ts) := by
  have e0 : tl ("each " : Str) = tl ("each" : Str) ++ [32] ∧ tl (" in" : Str) = 32 :: tl ("in" : Str) := by decide +kernel
  have w1 : Wd "each" := wd_of (by decide +kernel)
  have w2 := wd_id hx
  have w3 : Wd "in" := wd_of (by decide +kernel)
  simp only [tl_append, e0.1, e0.2]
  have e : tl ("each" : Str) ++ [32] ++ tl x ++ (32 :: tl ("in" : Str)) ++ tl (spc n) ++ tl z = tl ("each" : Str) ++ (32 :: (tl x ++ (32 :: (tl ("in" : Str) ++ (tl (spc n) ++ tl z))))) := by simp
  rw [e]
  exact .inr ⟨w1.nsk _, Lx.wd w1.n0 w1.w (Stop.cons (by decide +kernel)) (.sp (Lx.wd w2.n0 w2.w (Stop.cons (by decide +kernel)) (.sp (Lx.wd w3.n0 w3.w (spc_stop _ _) (spc_lx hz)))))⟩
theorem ln_if {z : Str} {ts : Toks} (hz : Lx (tl z) ts) : LL (tl (("if " : Str) ++ z)) (tW "if" :: ts) := by
  have e0 : tl ("if " : Str) = tl ("if" : Str) ++ [32] := by decide +kernel
  have w1 : Wd "if" := wd_of (by decide +kernel)
  simp only [tl_append, e0]
  have e : tl ("if" : Str) ++ [32] ++ tl z = tl ("if" : Str) ++ (32 :: tl z) := by simp
  rw [e]
  exact .inr ⟨w1.nsk _, Lx.wd w1.n0 w1.w (Stop.cons (by decide +kernel)) (.sp hz)⟩
theorem ln_word {x : Str} (h : wdB x = true) : LL (tl x) [tW x] := by
  have w := wd_of h
  have := w.nsk []
  rw [List.append_nil] at this
  exact .inr ⟨this, Lx.wd1 w.n0 w.w⟩
theorem ln_spc_word {n : Int} {x : Str} (h : wdB x = true) : LL (tl (spc n ++ x)) [tW x] := by
  have w := wd_of h
  have := w.nsk []
  rw [List.append_nil] at this
  rw [tl_append]
  exact .inr ⟨by rw [spc_skp]; exact this, spc_lx (Lx.wd1 w.n0 w.w)⟩
theorem ln_fail {n : Int} : LL (tl (("fail" : Str) ++ spc n)) [tW "fail"] := by
  have w : Wd "fail" := wd_of (by decide +kernel)
  rw [tl_append]
  have h := spc_lx (n := n) Lx.nil
  have h2 := Lx.wd w.n0 w.w (spc_stop n []) h
  rw [List.append_nil] at h2
  exact .inr ⟨w.nsk _, h2⟩
theorem ln_note : LL (tl ("# other" : Str)) [] := .inl ⟨by decide +kernel, rfl⟩
/-- how the block's loop sees a statement -/
theorem stD_let {outs n : Nat} {kn kn' : List Str} {d : PyData} {ls : List Toks} {c : Nat} (h : StD outs n kn d ls kn' c) :
    (∃ x e, d = .tuple [dS "let", dS x, e] ∧ idn (tl x) = true ∧ kn' = if x ∈ kn then kn else kn ++ [x]) ∨ ∃ y r, d = .tuple (dS y :: r) ∧ y ≠ ("let" : Str) ∧ kn' = kn := by
  rcases stD_cases h with h | ⟨m, _, h⟩
  · rcases h with ⟨k, e, ts, _, _, _, _, rfl, _, rfl, _⟩ | ⟨rfl, _, rfl, _⟩ | ⟨x, e, ts, hx, _, _, rfl, _, rfl, _⟩
    · exact .inr ⟨"put", _, rfl, by decide +kernel, rfl⟩
    · exact .inr ⟨"fail", _, rfl, by decide +kernel, rfl⟩
    · exact .inl ⟨x, e, rfl, hx, rfl⟩
  · rcases h with ⟨x, e, ts, body, bl, c1, _, _, _, _, rfl, _, rfl, _⟩ | ⟨e, ts, b1, l1, c1, b2, l2, c2, _, _, rfl, rfl, _, _⟩
    · exact .inr ⟨"each", _, rfl, by decide +kernel, rfl⟩
    · exact .inr ⟨"if", _, rfl, by decide +kernel, rfl⟩
end Ky

/-! The law's statements and blocks: the walk. -/
namespace Ky
open PySem PySem.Spec PyProof.Rows L2 TL
def LeftL (H : Hp) (f : Addr) (n : Nat) : Prop := ∃ i : Int, i = (n : Nat) ∧ H f = some (.lst [.int i])
theorem LeftL.same {H H' : Hp} {f : Addr} {n : Nat} (h : LeftL H f n) (e : Same H H') : LeftL H' f n := by
  obtain ⟨i, h1, h2⟩ := h
  exact ⟨i, h1, e _ _ h2⟩
theorem LeftL.but {l : Addr} {H H' : Hp} {f : Addr} {n : Nat} (h : LeftL H f n) (e : But l H H') (hn : f ≠ l) : LeftL H' f n := by
  obtain ⟨i, h1, h2⟩ := h
  exact ⟨i, h1, e _ _ h2 hn⟩
theorem LeftL.ne {H : Hp} {f p : Addr} {n : Nat} (h : LeftL H f n) (hp : H p = none) : p ≠ f := by
  obtain ⟨i, h1, h2⟩ := h
  exact (ne_of_none h2 hp).symm
theorem But2.same {p q : Addr} {H H' : Hp} (e : Same H H') : But2 p q H H' := fun c o h _ _ => e c o h
theorem But2.trans {p q : Addr} {H H1 H2 : Hp} (a : But2 p q H H1) (b : But2 p q H1 H2) : But2 p q H H2 := fun c o h x y => b c o (a c o h x y) x y
theorem But.b2 {p q : Addr} {H H' : Hp} (h : But p H H') : But2 p q H H' := fun c o e h1 _ => h c o e h1
theorem But2.nt {p q : Addr} {H H' : Hp} (b : But2 p q H H') (hN : NumL H p) {n : Nat} (hf : LeftL H q n) : FK H H' := b.fk hN.nt (by obtain ⟨i, _, h2⟩ := hf; rw [h2]; trivial)
section
variable {P : Program} {w : World} {K : PySem.W.Frag} {mg : Str → Option Value} {base : Heap} {φ : Str × Option Str → FuncData}
/-- what a statement, a block stand on -/
structure LCx (H : Hp) (l nl f : Addr) (kn : List Str) (o : Int) (lf : Nat) : Prop where
  num : NumL H l
  nam : H nl = some (.lst (kn.map V.str))
  lef : LeftL H f lf
  ne1 : nl ≠ l
  ne2 : nl ≠ f
  ne3 : l ≠ f
  o1 : 1 ≤ o
  o3 : o ≤ 3
  kn0 : kn ≠ []
  knl : kn.length + lf ≤ 50
  kid : ∀ x ∈ kn, idn (tl x) = true
theorem dp_inv {K : PySem.W.Frag} {H : Hp} {v : V} {ds : List PyData} (h : Dp K H v (.tuple ds)) : ∃ a xs, v = .ref a ∧ SqT K H a xs ∧ DpAll K H xs ds := by
  cases h with
  | tup h1 h2 => exact ⟨_, _, rfl, h1, h2⟩
theorem LCx.mv {H H' : Hp} {l nl f : Addr} {kn kn2 : List Str} {o : Int} {lf : Nat} (h : LCx H l nl f kn o lf) (e1 : H' l = H l) (e2 : H' f = H f) (e3 : H' nl = some (.lst (kn2.map V.str))) (k0 : kn2 ≠ []) (k1 : kn2.length + lf ≤ 50) (k2 : ∀ x ∈ kn2, idn (tl x) = true) : LCx H' l nl f kn2 o lf := by
  obtain ⟨⟨ns, hns, hns2⟩, hnl, ⟨i, hi, hf⟩, a, b, c, d, e, _, _, _⟩ := h
  exact ⟨⟨ns, e1.trans hns, hns2⟩, e3, ⟨i, hi, e2.trans hf⟩, a, b, c, d, e, k0, k1, k2⟩
def spLS (K : PySem.W.Frag) (n : Nat) : Sp := fun vs H Q _ => ∃ (l nl f : Addr) (kn : List Str) (o : Nat) (lf : Nat), vs = [.ref l, .ref nl, .int (n : Nat), .int (o : Nat), .ref f] ∧ LCx H l nl f kn o lf ∧ kn.length + lf ≤ 49 ∧
  ∀ H' q vd lp dd zs ls kn' c lf', But2 l f H H' → NumL H' l → LeftL H' f lf' → H' q = some (.tup [vd, .ref lp]) → Dp K H' vd dd → StD o n kn dd ls kn' c → H' lp = some (.lst (zs.map V.str)) → LLs zs ls → H lp = none → zs.length ≤ 4 * c → lf' + c = lf + 1 → Q (.ref q) H'
def spLB (K : PySem.W.Frag) (m : Nat) : Sp := fun vs H Q _ => ∃ (n : Nat) (l nl f : Addr) (kn : List Str) (o : Nat) (lf : Nat), m = n + 1 ∧ vs = [.ref l, .ref nl, .int (n : Nat), .int (o : Nat), .ref f] ∧ LCx H l nl f kn o lf ∧
  ∀ H' q vd lp ds zs ls c lf', But2 l f H H' → NumL H' l → LeftL H' f lf' → H' q = some (.tup [vd, .ref lp]) → Dp K H' vd (.tuple ds) → BkD o n kn ds ls c → H' lp = some (.lst (zs.map V.str)) → LLs zs ls → H lp = none → zs.length ≤ 4 * c → lf' + c = lf → Q (.ref q) H'
theorem ok_law_block (T : Tp w K mg φ) (n : Nat) (G_law_statement : FnOk P w K mg base CX0 (2 * n + 8) (He.ga K "_law_statement") (φ ("_law_statement", none)) P_law_statement (spLS K n)) :
    FnOk P w K mg base CX0 (2 * n + 9) (He.ga K "_law_block") (φ ("_law_block", none)) P_law_block (spLB K (n + 1)) := by
  have G_law_take := ok_law_take (P := P) (base := base) T
  refine okF T.F_law_block sc_law_block (fun vs H Q E h => ?_) (fun cdv A outer s H vs Q E hr h => ?_)
  · obtain ⟨n, l, nl, f, kn, o, lf, _, rfl, _⟩ := h
    rfl
  obtain ⟨n', l, kl, f, kn, o, lf, hn, rfl, ⟨hN, hkl, hf, ne1, ne2, ne3, o1, o3, k0, k1, k2⟩, k⟩ := h
  obtain rfl : n = n' := by omega
  have nd := sc_law_block.nd
  refine ⟨_, (pss_cons (ps_set (i := 5) nd rfl (Or.inl rfl) (pe_callTy call_list_of (by rfl) T.z_list (by decide +kernel) (pa_cons (pv 1) pa_nil)))
    (pss_cons (ps_set (i := 6) nd rfl (Or.inl rfl) (pe_lst pa_nil))
    (pss_cons (ps_set (i := 7) nd rfl (Or.inl rfl) (pe_lst pa_nil))
    (pss_cons (ps_for PassesOwn.never rfl (pi_range1 rfl T.z_range (pa_cons (pe_call G_law_take (hr.mono (by omega)) rfl T.g_law_take T.k_law_take T.b_law_take .nil pass0 (pa_cons (pv 0) (pa_cons pe_int pa_nil))) pa_nil)) (pg_name (i := 8) nd rfl (Or.inl rfl)) 
      (pss_one (ps_if (pt_cmpR op_gt (pe_ix ix_list (pv 4) pe_int (fun _ _ => rfl)) pe_int (nomark _)) 
        (pss_cons (ps_asg (pe_op op_sub (pe_ix ix_list (pv 4) pe_int (fun _ _ => rfl)) pe_int) (pg_sub (pv 4) pe_int set_list))
        (pss_cons (ps_set (i := 9) nd rfl (Or.inl rfl) (pe_call G_law_statement (hr.mono (by omega)) rfl T.g_law_statement T.k_law_statement T.b_law_statement .nil pass0 (pa_cons (pv 0) (pa_cons (pv 5) (pa_cons (pv 2) (pa_cons (pv 3) (pa_cons (pv 4) pa_nil)))))))
        (pss_cons (ps_expr (pe_bm PySem.F.plainAttrs_list PySem.F.slot_list_append PySem.F.type_list_append mt_append (pv 6) (pa_cons (pe_ix ix_tup (pv 9) pe_int (fun _ _ => rfl)) pa_nil)))
        (pss_cons (ps_set (i := 7) nd rfl (Or.inl rfl) (pe_op op_cat (pv 7) (pe_ix ix_tup (pv 9) pe_int (fun _ _ => rfl))))
        (pss_one (ps_if (PW.pt (pw_and (pt_cmpR op_eq (pe_ix ix_tup (pe_ix ix_tup (pv 9) pe_int (fun _ _ => rfl)) pe_int (fun _ _ => rfl)) pe_str (nomark _)) (pw_and1 (pt_cmpR op_notIn_seq (pe_ix ix_tup (pe_ix ix_tup (pv 9) pe_int (fun _ _ => rfl)) pe_int (fun _ _ => rfl)) (pv 5) (by rfl))))) 
          (pss_one (ps_expr (pe_bm PySem.F.plainAttrs_list PySem.F.slot_list_append PySem.F.type_list_append mt_append (pv 5) (pa_cons (pe_ix ix_tup (pe_ix ix_tup (pv 9) pe_int (fun _ _ => rfl)) pe_int (fun _ _ => rfl)) pa_nil)))) pss_nil)))))) pss_nil)))
    (pss_one (ps_ret (pe_tup (pa_cons (pe_callTy call_tuple_of (by rfl) T.z_tuple (by decide +kernel) (pa_cons (pv 6) pa_nil)) (pa_cons (pv 7) pa_nil))))))))), ?_⟩
  refine ⟨_, rfl, kl, _, rfl, .inl (SqL.of hkl), fun nl hnl => ?_⟩
  have s1 := same_new hnl (.lst (kn.map V.str))
  refine ⟨Nat.zero_le _, fun b hb => ?_⟩
  have s2 := same_new hb (.lst [])
  refine ⟨Nat.zero_le _, fun e he => ?_⟩
  have s3 := same_new he (.lst [])
  have n1 : nl ≠ b := ne_of_none upd_same hb
  have n2 : b ≠ e := ne_of_none upd_same he
  have n3 : nl ≠ e := ne_of_none (s2 _ _ upd_same) he
  have s4 := (s1.trans s2).trans s3
  have hb0 : H b = none := s1.free hb
  have he0 : H e = none := s1.free (s2.free he)
  obtain ⟨ns0, hns0, _⟩ := id hN
  refine ⟨_, rfl, l, 5, rfl, by decide, hN.same s4, fun H1 i1 hB1 hN1 h0 h1 => ?_⟩
  refine ⟨_, rfl, by omega, by omega, ?_⟩
  have ll : ∀ {p : Addr}, H p = none → p ≠ l := fun {p} h => (hN.ne h).symm
  have lf0 : ∀ {p : Addr}, H p = none → p ≠ f := fun {p} h => hf.ne h
  have hnl1 : H1 nl = some (.lst (kn.map V.str)) := hB1 _ _ (s3 _ _ (s2 _ _ upd_same)) (ll hnl)
  have hb1 : H1 b = some (.lst []) := hB1 _ _ (s3 _ _ upd_same) (ll hb0)
  have he1 : H1 e = some (.lst []) := hB1 _ _ upd_same (ll he0)
  have hf1 : LeftL H1 f lf := (hf.same s4).but hB1 ne3.symm
  refine for_range (n := i1.toNat) (fun i σ H' => ∃ (kn1 : List Str) (ds : List PyData) (vs1 : List V) (zs : List Str) (ls : List Toks) (c lf1 : Nat) (e1 : Addr) (v8 v9 : Option V), σ = [some (.ref l), some (.ref kl), some (.int (n : Nat)), some (.int (o : Nat)), some (.ref f), some (.ref nl), some (.ref b), some (.ref e1), v8, v9] ∧
      But2 l f H H' ∧ LCx H' l nl f kn1 o lf1 ∧ BlkE (StD o n) kn ds ls c kn1 ∧ lf1 + c = lf ∧ H' b = some (.lst vs1) ∧ DpAll K H' vs1 ds ∧ tupd.all ds = true ∧ ds.length ≤ c ∧ H' e1 = some (.lst (zs.map V.str)) ∧ LLs zs ls ∧ zs.length ≤ 4 * c ∧ H e1 = none ∧ nl ≠ e1 ∧ b ≠ e1)
    ⟨kn, [], [], [], [], 0, lf, e, none, none, rfl, (But2.same s4).trans hB1.b2, ⟨hN1, hnl1, hf1, ll hnl, lf0 hnl, ne3, o1, o3, k0, k1, k2⟩, .nil, rfl, hb1, .nil, rfl, Nat.le_refl _, he1, trivial, Nat.zero_le _, he0, n3, n2⟩ ?_ ?_
  · rintro i σ H' hi ⟨kn1, ds, vs1, zs, ls, c, lf1, e1, v8, v9, rfl, hB, hX, hE, hlf, hbl, hda, htd, hdl, hel, hL, hzl, he10, n13, n23⟩
    have hX' := hX
    obtain ⟨hN', hnl', hf', _, _, _, _, _, k0', k1', k2'⟩ := hX'
    obtain ⟨li, hli, hf'⟩ := hf'
    by_cases hl0 : 0 < lf1
    · obtain ⟨m, rfl⟩ : ∃ m, lf1 = m + 1 := ⟨lf1 - 1, by omega⟩
      refine ⟨_, rfl, f, _, _, _, rfl, rfl, SqL.of hf', atI_nat (j := 0) rfl, _, _, rfl, rfl, _, rfl, itT (decide_eq_true (by omega)) ?_⟩
      refine ⟨_, rfl, f, _, _, _, rfl, rfl, SqL.of hf', atI_nat (j := 0) rfl, _, _, rfl, rfl, ?_⟩
      refine ⟨_, rfl, f, _, _, 0, rfl, rfl, hf', rfl, ?_⟩
      have bx : But2 l f H' (upd H' f (.lst [.int (li - 1)])) := fun c o h1 _ h2 => by rw [upd_ne h2]; exact h1
      have hX1 : LCx (upd H' f (.lst [.int (li - 1)])) l nl f kn1 o m := by
        obtain ⟨ns, hns, hns2⟩ := hN'
        refine ⟨⟨ns, by rw [upd_ne ne3]; exact hns, hns2⟩, by rw [upd_ne (lf0 hnl)]; exact hnl', ⟨li - 1, by omega, upd_same⟩, ll hnl, lf0 hnl, ne3, o1, o3, k0', by omega, k2'⟩
      show L2.tSeq _ _ _ _ (upd H' f (.lst [.int (li - 1)]))
      have bel : (upd H' f (.lst [.int (li - 1)])) e1 = some (.lst (zs.map V.str)) := bx _ _ hel (ll he10) (lf0 he10)
      have bbl : (upd H' f (.lst [.int (li - 1)])) b = some (.lst vs1) := bx _ _ hbl (ll hb0) (lf0 hb0)
      have bda : DpAll K (upd H' f (.lst [.int (li - 1)])) vs1 ds := (bx.nt hX.num hX.lef).dpa htd hda
      generalize upd H' f (.lst [.int (li - 1)]) = H2 at bx hX1 bel bbl bda ⊢
      refine ⟨_, rfl, _, rfl, _, rfl, _, rfl, _, rfl, l, nl, f, kn1, o, m, rfl, hX1, by omega, fun H3 q vd lp dd zs2 ls2 kn2 c2 lf2 hB3 hN3 hf3 hq3 hd3 hS3 hlp3 hL3 hlp0 hz3 hlf3 => ?_⟩
      have nlb : lp ≠ b := (ne_of_none bbl hlp0).symm
      have nlnl : lp ≠ nl := (ne_of_none hX1.nam hlp0).symm
      have cl : c ≤ 50 := by omega
      have fk3 := hB3.nt hX1.num hX1.lef
      have hb3 : H3 b = some (.lst vs1) := hB3 _ _ bbl (ll hb0) (lf0 hb0)
      have hel3 : H3 e1 = some (.lst (zs.map V.str)) := hB3 _ _ bel (ll he10) (lf0 he10)
      have hnl3 : H3 nl = some (.lst (kn1.map V.str)) := hB3 _ _ hX1.nam (ll hnl) (lf0 hnl)
      have hda3 : DpAll K H3 (vs1 ++ [vd]) (ds ++ [dd]) := dpa_snoc hd3 _ _ (fk3.dpa htd bda)
      have hvl := dpa_len _ _ bda
      have gd := (stD_good hS3).tup
      have htd3 : tupd.all (ds ++ [dd]) = true := by
        rw [all_app, htd]
        show (true && (tupd dd && true)) = true
        rw [gd] <;> rfl
      have hc2 := stD_pos hS3
      have hkn2 := stD_kn hS3
      refine ⟨_, rfl, .inl ⟨rfl, _, SqL.of hb3⟩, _, rfl, q, _, _, _, rfl, rfl, .inl (.inl hq3), rfl, b, _, _, rfl, rfl, hb3, szl (by omega), ?_⟩
      have f4 := FK.lst (.lst (vs1 ++ [vd])) hb3
      have hel4 : (upd H3 b (.lst (vs1 ++ [vd]))) e1 = some (.lst (zs.map V.str)) := by rw [upd_ne n23.symm]; exact hel3
      have hlp4 : (upd H3 b (.lst (vs1 ++ [vd]))) lp = some (.lst (zs2.map V.str)) := by rw [upd_ne nlb]; exact hlp3
      refine ⟨_, rfl, _, rfl, q, _, _, _, rfl, rfl, .inl (.inl (f4.t _ _ hq3)), rfl, e1, lp, _, _, rfl, rfl, hel4, hlp4, sz (by rw [List.length_map, List.length_map]; omega), fun e2 he2 => ?_⟩
      have s5 := same_new he2 (.lst (zs.map V.str ++ zs2.map V.str))
      have f5 := f4.trans (FK.same s5)
      have hb5 : (upd (upd H3 b (.lst (vs1 ++ [vd]))) e2 (.lst (zs.map V.str ++ zs2.map V.str))) b = some (.lst (vs1 ++ [vd])) := s5 _ _ upd_same
      have hnl5 : (upd (upd H3 b (.lst (vs1 ++ [vd]))) e2 (.lst (zs.map V.str ++ zs2.map V.str))) nl = some (.lst (kn1.map V.str)) := s5 _ _ (by rw [upd_ne n1]; exact hnl3)
      have e2H3 : H3 e2 = none := by
        have : e2 ≠ b := (ne_of_none upd_same he2).symm
        rwa [upd_ne this] at he2
      have up : ∀ {c : Addr} {o : HO}, H c = some o → c ≠ l → c ≠ f → H3 c = some o := fun h h1 h2 => hB3 _ _ (bx _ _ (hB _ _ h h1 h2) h1 h2) h1 h2
      have e2H : H e2 = none := by
        cases e : H e2 with
        | none => rfl
        | some o =>
          exfalso
          by_cases h1 : e2 = l
          · subst h1
            obtain ⟨ns, hns, _⟩ := hN3
            rw [hns] at e2H3
            cases e2H3
          · by_cases h2 : e2 = f
            · subst h2
              obtain ⟨_, _, hns⟩ := hf3
              rw [hns] at e2H3
              cases e2H3
            · rw [up e h1 h2] at e2H3
              cases e2H3
      have ne2nl : nl ≠ e2 := ne_of_none hnl3 e2H3
      have ne2b : b ≠ e2 := ne_of_none hb3 e2H3
      have nfb : f ≠ b := (lf0 hb0).symm
      have nlb' : l ≠ b := (ll hb0).symm
      have hl5 : (upd (upd H3 b (.lst (vs1 ++ [vd]))) e2 (.lst (zs.map V.str ++ zs2.map V.str))) l = H3 l := by rw [upd_ne (hN3.ne e2H3), upd_ne nlb']
      have hf5 : (upd (upd H3 b (.lst (vs1 ++ [vd]))) e2 (.lst (zs.map V.str ++ zs2.map V.str))) f = H3 f := by rw [upd_ne (hf3.ne e2H3).symm, upd_ne nfb]
      have hq5 := f5.t _ _ hq3
      have hd5 := f5.dp gd hd3
      have hda5 := f5.dpa htd3 hda3
      have hel5 : (upd (upd H3 b (.lst (vs1 ++ [vd]))) e2 (.lst (zs.map V.str ++ zs2.map V.str))) e2 = some (.lst ((zs ++ zs2).map V.str)) := by rw [upd_same, List.map_append]
      have hB5 : But2 l f H (upd (upd H3 b (.lst (vs1 ++ [vd]))) e2 (.lst (zs.map V.str ++ zs2.map V.str))) := fun c o h h1 h2 => s5 _ _ (by rw [upd_ne (ne_of_none h hb0)]; exact up h h1 h2)
      generalize upd (upd H3 b (.lst (vs1 ++ [vd]))) e2 (.lst (zs.map V.str ++ zs2.map V.str)) = H5 at hb5 hnl5 hl5 hf5 hq5 hd5 hda5 hel5 hB5 ⊢
      have hX3 : LCx H3 l nl f kn1 o lf2 := ⟨hN3, hnl3, hf3, ll hnl, lf0 hnl, ne3, o1, o3, k0', by omega, k2'⟩
      have hE2 := hE.snoc hS3
      have hdl2 : (ds ++ [dd]).length ≤ c + c2 := by rw [List.length_append, List.length_singleton]; omega
      have hz2 : (zs ++ zs2).length ≤ 4 * (c + c2) := by rw [List.length_append]; omega
      have he20 : H e2 = none := e2H
      rcases stD_let hS3 with ⟨x, ex, rfl, hidx, hkk⟩ | ⟨y, r, rfl, hy, hkk⟩
      · obtain ⟨a, xs, rfl, hsa, hxa⟩ := dp_inv hd5
        obtain ⟨ve, rfl⟩ : ∃ ve, xs = [V.str "let", V.str x, ve] := by
          cases hxa with
          | cons h1 h2 =>
            cases h1
            cases h2 with
            | cons h3 h4 =>
              cases h3
              cases h4 with
              | cons h5 h6 =>
                cases h6
                exact ⟨_, rfl⟩
        refine ⟨_, rfl, q, _, _, _, rfl, rfl, .inl (.inl hq5), rfl, a, _, _, _, rfl, rfl, hsa, rfl, rfl, _, rfl, itT (by decide +kernel) ?_⟩
        refine ⟨_, rfl, q, _, _, _, rfl, rfl, .inl (.inl hq5), rfl, a, _, _, _, rfl, rfl, hsa, rfl, _, rfl, nl, _, rfl, .inl (SqL.of hnl5), rfl, flat_strs kn1, _, rfl, ?_⟩
        have ei : (if true = true then !inV (.str x) (kn1.map V.str) else inV (.str x) (kn1.map V.str)) = !decide (x ∈ kn1) := by rw [inV_str] <;> rfl
        by_cases hzk : x ∈ kn1
        · rw [if_pos hzk] at hkk
          subst hkk
          refine itF (by rw [ei, decide_eq_true hzk] <;> rfl) ?_
          exact ⟨_, ds ++ [_], vs1 ++ [_], zs ++ zs2, ls ++ ls2, c + c2, lf2, e2, _, _, rfl, hB5, hX3.mv hl5 hf5 hnl5 k0' (by omega) k2', hE2, by omega, hb5, hda5, htd3, hdl2, hel5, hL.app hL3, hz2, he20, ne2nl, ne2b⟩
        · rw [if_neg hzk] at hkk
          subst hkk
          refine itT (by rw [ei, decide_eq_false hzk] <;> rfl) ?_
          refine ⟨_, rfl, .inl ⟨rfl, _, SqL.of hnl5⟩, _, rfl, q, _, _, _, rfl, rfl, .inl (.inl hq5), rfl, a, _, _, _, rfl, rfl, hsa, rfl, nl, _, _, rfl, rfl, hnl5, szl (by rw [List.length_map]; omega), ?_⟩
          have f6 := FK.lst (.lst (kn1.map V.str ++ [.str x])) hnl5
          have hX6 : LCx (upd H5 nl (.lst (kn1.map V.str ++ [.str x]))) l nl f (kn1 ++ [x]) o lf2 := by
            refine hX3.mv ?_ ?_ ?_ (by simp) (by rw [List.length_append, List.length_singleton]; rw [List.length_append, List.length_singleton] at hkn2; omega) fun y hy => ?_
            · rw [upd_ne (ll hnl).symm]; exact hl5
            · rw [upd_ne (lf0 hnl).symm]; exact hf5
            · rw [upd_same, List.map_append] <;> rfl
            · rcases List.mem_append.mp hy with h | h
              · exact k2' y h
              · rw [List.mem_singleton.mp h]; exact hidx
          exact ⟨kn1 ++ [x], ds ++ [_], vs1 ++ [_], zs ++ zs2, ls ++ ls2, c + c2, lf2, e2, _, _, rfl, fun c o h h1 h2 => by rw [upd_ne (ne_of_none h hnl)]; exact hB5 _ _ h h1 h2, hX6, hE2, by omega, by rw [upd_ne n1.symm]; exact hb5, f6.dpa htd3 hda5, htd3, hdl2, by rw [upd_ne ne2nl.symm]; exact hel5, hL.app hL3, hz2, he20, ne2nl, ne2b⟩
      · subst hkk
        obtain ⟨a, xs, rfl, hsa, hxa⟩ := dp_inv hd5
        obtain ⟨rs, rfl⟩ : ∃ rs, xs = V.str y :: rs := by
          cases hxa with
          | cons h1 h2 =>
            cases h1
            exact ⟨_, rfl⟩
        refine ⟨_, rfl, q, _, _, _, rfl, rfl, .inl (.inl hq5), rfl, a, _, _, _, rfl, rfl, hsa, atI_nat (j := 0) rfl, rfl, _, rfl, itF (decide_eq_false fun z => hy (V.str.inj z)) ?_⟩
        exact ⟨_, ds ++ [_], vs1 ++ [_], zs ++ zs2, ls ++ ls2, c + c2, lf2, e2, _, _, rfl, hB5, hX3.mv hl5 hf5 hnl5 k0' (by omega) k2', hE2, by omega, hb5, hda5, htd3, hdl2, hel5, hL.app hL3, hz2, he20, ne2nl, ne2b⟩
    · refine ⟨_, rfl, f, _, _, _, rfl, rfl, SqL.of hf', atI_nat (j := 0) rfl, _, _, rfl, rfl, _, rfl, itF (decide_eq_false (by omega)) ?_⟩
      exact ⟨kn1, ds, vs1, zs, ls, c, lf1, e1, _, v9, rfl, hB, hX, hE, hlf, hbl, hda, htd, hdl, hel, hL, hzl, he10, n13, n23⟩
  · rintro σ H' ⟨kn1, ds, vs1, zs, ls, c, lf1, e1, v8, v9, rfl, hB, hX, hE, hlf, hbl, hda, htd, hdl, hel, hL, hzl, he10, n13, n23⟩
    refine ⟨_, rfl, b, _, rfl, .inl ⟨SqL.of hbl, fun t0 ht0 => ?_⟩⟩
    have s5 := same_new ht0 (.tup vs1)
    refine ⟨_, rfl, by show 2 ≤ sizeLine; decide, fun t1 ht1 => ?_⟩
    have s6 := same_new ht1 (.tup [.ref t0, .ref e1])
    have s7 := s5.trans s6
    exact k _ t1 (.ref t0) e1 ds zs ls c lf1 (hB.trans (But2.same s7)) (hX.num.same s7) (hX.lef.same s7) upd_same (dp_same s6 _ _ (dp_tup upd_same (dpa_same s5 _ _ hda))) (blkE_blk hE) (s7 _ _ hel) hL he10 hzl hlf
end
end Ky

/-! The law's statements: the walk. -/
namespace Ky
open PySem PySem.Spec PyProof.Rows L2 TL
theorem But2.free {l f : Addr} {H H' : Hp} {n : Nat} (b : But2 l f H H') (hN : NumL H' l) (hf : LeftL H' f n) {p : Addr} (hp : H' p = none) : H p = none := by
  cases e : H p with
  | none => rfl
  | some o =>
    exfalso
    by_cases h1 : p = l
    · subst h1
      obtain ⟨ns, hns, _⟩ := hN
      rw [hns] at hp
      cases hp
    · by_cases h2 : p = f
      · subst h2
        obtain ⟨_, _, hns⟩ := hf
        rw [hns] at hp
        cases hp
      · rw [b _ _ e h1 h2] at hp
        cases hp
theorem LCx.same {H H' : Hp} {l nl f : Addr} {kn : List Str} {o : Int} {lf : Nat} (h : LCx H l nl f kn o lf) (e : Same H H') : LCx H' l nl f kn o lf :=
  ⟨h.num.same e, e _ _ h.nam, h.lef.same e, h.ne1, h.ne2, h.ne3, h.o1, h.o3, h.kn0, h.knl, h.kid⟩
theorem LCx.but {H H' : Hp} {l nl f : Addr} {kn : List Str} {o : Int} {lf : Nat} (h : LCx H l nl f kn o lf) (e : But l H H') (hN : NumL H' l) : LCx H' l nl f kn o lf :=
  ⟨hN, e _ _ h.nam h.ne1, h.lef.but e h.ne3.symm, h.ne1, h.ne2, h.ne3, h.o1, h.o3, h.kn0, h.knl, h.kid⟩
theorem LCx.b2 {H H' : Hp} {l nl f : Addr} {kn : List Str} {o : Int} {lf lf' : Nat} (h : LCx H l nl f kn o lf) (e : But2 l f H H') (hN : NumL H' l) (hf : LeftL H' f lf') (hl : lf' ≤ lf) : LCx H' l nl f kn o lf' :=
  ⟨hN, e _ _ h.nam h.ne1 h.ne2, hf, h.ne1, h.ne2, h.ne3, h.o1, h.o3, h.kn0, by have := h.knl; omega, h.kid⟩
theorem LCx.kok {H : Hp} {l nl f : Addr} {kn : List Str} {o : Int} {lf : Nat} (h : LCx H l nl f kn o lf) : KnOk kn := ⟨h.kn0, by have := h.knl; omega, h.kid⟩
section
variable {P : Program} {w : World} {K : PySem.W.Frag} {mg : Str → Option Value} {base : Heap} {φ : Str × Option Str → FuncData}
theorem fnOk_ex {ι : Type} {CX : CXT} {k : Nat} {f : Addr} {fd : FuncData} {ps : List Str} {sp : ι → Sp} (h : ∀ i, FnOk P w K mg base CX k f fd ps (sp i)) : FnOk P w K mg base CX k f fd ps (fun vs H Q E => ∃ i, sp i vs H Q E) :=
  ⟨fun vs H Q E ⟨i, z⟩ => (h i).len vs H Q E z, fun A outer s H args us vs Q E hr e b r ⟨i, z⟩ => (h i).run A outer s H args us vs Q E hr e b r z⟩
def nmL : List Str := ["a", "b_2", "x"]
def neL : List Str := ["a", "y"]
theorem nmF : ∀ x ∈ nmL ++ neL, idn (tl x) = true ∧ x ≠ ("stem" : Str) := by decide +kernel
def MidIf (pre : Addr → L2.St) (H7 : Hp) (t4 : Toks) (d2 : List PyData) (l1 l2 : List Toks) (c1 c2 : Nat) : L2.St → Hp → Prop := fun σ' H' => ∃ (pz : Addr) (zz : List Str) (lz : List Toks), σ' = pre pz ∧ Same H7 H' ∧ H' pz = some (.lst (zz.map V.str)) ∧ LLs zz lz ∧ zz.length ≤ 3 + 4 * (c1 + c2) ∧
  ((d2 = [] ∧ c2 = 0 ∧ lz = (tW "if" :: t4) :: l1) ∨ lz = (tW "if" :: t4) :: (l1 ++ ([] :: [tW "else"] :: l2)))
theorem ok_law_statement (T : Tp w K mg φ) (n : Nat) (G_law_block : FnOk P w K mg base CX0 (2 * n + 7) (He.ga K "_law_block") (φ ("_law_block", none)) P_law_block (spLB K n)) :
    FnOk P w K mg base CX0 (2 * n + 8) (He.ga K "_law_statement") (φ ("_law_statement", none)) P_law_statement (spLS K n) := by
  have G_law_take := ok_law_take (P := P) (base := base) T
  have G_law_expression := fnOk_ex (P := P) (w := w) (K := K) (mg := mg) (base := base) (sp := fun b : Bool => spLE K (cond b 3 2)) fun b => (match b with
    | true => ok_law_exprs (P := P) (base := base) T 3 (by decide)
    | false => (ok_law_exprs (P := P) (base := base) T 2 (by decide)).mono (by decide) : FnOk P w K mg base CX0 7 (He.ga K "_law_expression") (φ ("_law_expression", none)) P_law_expression (spLE K (cond b 3 2)))
  refine okF T.F_law_statement sc_law_statement (fun vs H Q E h => ?_) (fun cdv A outer s H vs Q E hr h => ?_)
  · obtain ⟨l, nl, f, kn, o, lf, rfl, _⟩ := h
    rfl
  obtain ⟨l, nl, f, kn, o, lf, rfl, hX, h49, k⟩ := h
  have nd := sc_law_statement.nd
  refine ⟨_, (pss_cons (ps_set (i := 5) nd rfl (Or.inl rfl) (pe_call G_law_take (hr.mono (by omega)) rfl T.g_law_take T.k_law_take T.b_law_take .nil pass0 (pa_cons (pv 0) (pa_cons pe_int pa_nil))))
    (C8.pss_cut (ps_if (PW.pt (pw_and (pt_cmpR op_gt (pv 5) pe_int (nomark _)) (pw_and1 (pt_cmpR op_eq (pv 2) pe_int (nomark _))))) 
      (pss_one (ps_set (i := 5) nd rfl (Or.inl rfl) (pe_op op_sub (pv 5) pe_int))) pss_nil)
    (pss_cons (ps_set (i := 6) nd rfl (Or.inl rfl) (pe_op op_mul_sp pe_str (pe_op op_add pe_int (pe_call G_law_take (hr.mono (by omega)) rfl T.g_law_take T.k_law_take T.b_law_take .nil pass0 (pa_cons (pv 0) (pa_cons pe_int pa_nil))))))
    (pss_cons (ps_if (pt_cmpR op_eq (pv 5) pe_int (nomark _)) 
      (pss_cons (ps_set (i := 7) nd rfl (Or.inl rfl) (pe_op op_add pe_int (pe_call G_law_take (hr.mono (by omega)) rfl T.g_law_take T.k_law_take T.b_law_take .nil pass0 (pa_cons (pv 0) (pa_cons (pv 3) pa_nil)))))
      (pss_cons (ps_set (i := 8) nd rfl (Or.inl rfl) (pe_call G_law_expression (hr.mono (by omega)) rfl T.g_law_expression T.k_law_expression T.b_law_expression .nil pass0 (pa_cons (pv 0) (pa_cons (pv 1) (pa_cons pe_int pa_nil)))))
      (pss_one (ps_ret (pe_tup (pa_cons (pe_tup (pa_cons pe_str (pa_cons (pv 7) (pa_cons (pe_ix ix_tup (pv 8) pe_int (fun _ _ => rfl)) pa_nil)))) (pa_cons (pe_lst (pa_cons (pe_op op_add_str (pe_op op_add_str (pe_op op_add_str (pe_op op_add_str (pv 6) pe_str) (pe_callTy call_str_int (by rfl) T.z_str (by decide +kernel) (pa_cons (pv 7) pa_nil))) (pv 6)) (pe_ix ix_tup (pv 8) pe_int (fun _ _ => rfl))) pa_nil)) pa_nil))))))) pss_nil)
    (pss_cons (ps_if (pt_cmpR op_eq (pv 5) pe_int (nomark _)) 
      (pss_one (ps_ret (pe_tup (pa_cons (pe_tup (pa_cons pe_str pa_nil)) (pa_cons (pe_lst (pa_cons (pe_op op_add_str pe_str (pv 6)) pa_nil)) pa_nil))))) pss_nil)
    (pss_cons (ps_if (pt_cmpR op_lt (pv 5) pe_int (nomark _)) 
      (pss_cons (ps_set (i := 9) nd rfl (Or.inl rfl) (pe_ix ix_list (pe_lst (pa_cons pe_str (pa_cons pe_str (pa_cons pe_str pa_nil)))) (pe_call G_law_take (hr.mono (by omega)) rfl T.g_law_take T.k_law_take T.b_law_take .nil pass0 (pa_cons (pv 0) (pa_cons pe_int pa_nil))) (fun _ _ => rfl)))
      (pss_cons (ps_set (i := 8) nd rfl (Or.inl rfl) (pe_call G_law_expression (hr.mono (by omega)) rfl T.g_law_expression T.k_law_expression T.b_law_expression .nil pass0 (pa_cons (pv 0) (pa_cons (pv 1) (pa_cons pe_int pa_nil)))))
      (pss_one (ps_ret (pe_tup (pa_cons (pe_tup (pa_cons pe_str (pa_cons (pv 9) (pa_cons (pe_ix ix_tup (pv 8) pe_int (fun _ _ => rfl)) pa_nil)))) (pa_cons (pe_lst (pa_cons (pe_op op_add_str (pe_op op_add_str (pe_op op_add_str (pe_op op_add_str pe_str (pv 6)) (pv 9)) pe_str) (pe_ix ix_tup (pv 8) pe_int (fun _ _ => rfl))) pa_nil)) pa_nil))))))) pss_nil)
    (pss_cons (ps_set (i := 8) nd rfl (Or.inl rfl) (pe_call G_law_expression (hr.mono (by omega)) rfl T.g_law_expression T.k_law_expression T.b_law_expression .nil pass0 (pa_cons (pv 0) (pa_cons (pv 1) (pa_cons pe_int pa_nil)))))
    (pss_cons (ps_if (pt_cmpR op_eq (pv 5) pe_int (nomark _)) 
      (pss_cons (ps_set (i := 9) nd rfl (Or.inl rfl) (pe_ix ix_list (pe_lst (pa_cons pe_str (pa_cons pe_str pa_nil))) (pe_call G_law_take (hr.mono (by omega)) rfl T.g_law_take T.k_law_take T.b_law_take .nil pass0 (pa_cons (pv 0) (pa_cons pe_int pa_nil))) (fun _ _ => rfl)))
      (pss_cons (ps_set (i := 10) nd rfl (Or.inl rfl) (pe_call G_law_block (hr.mono (by omega)) rfl T.g_law_block T.k_law_block T.b_law_block .nil pass0 (pa_cons (pv 0) (pa_cons (pe_op op_cat (pv 1) (pe_lst (pa_cons (pv 9) pa_nil))) (pa_cons (pe_op op_sub (pv 2) pe_int) (pa_cons (pv 3) (pa_cons (pv 4) pa_nil)))))))
      (pss_one (ps_ret (pe_tup (pa_cons (pe_tup (pa_cons pe_str (pa_cons (pv 9) (pa_cons (pe_ix ix_tup (pv 8) pe_int (fun _ _ => rfl)) (pa_cons (pe_ix ix_tup (pv 10) pe_int (fun _ _ => rfl)) pa_nil))))) (pa_cons (pe_op op_cat (pe_op op_cat (pe_lst (pa_cons (pe_op op_add_str (pe_op op_add_str (pe_op op_add_str (pe_op op_add_str pe_str (pv 9)) pe_str) (pv 6)) (pe_ix ix_tup (pv 8) pe_int (fun _ _ => rfl))) pa_nil)) (pe_ix ix_tup (pv 10) pe_int (fun _ _ => rfl))) (pe_lst (pa_cons pe_str pa_nil))) pa_nil))))))) pss_nil)
    (pss_cons (ps_set (i := 10) nd rfl (Or.inl rfl) (pe_call G_law_block (hr.mono (by omega)) rfl T.g_law_block T.k_law_block T.b_law_block .nil pass0 (pa_cons (pv 0) (pa_cons (pv 1) (pa_cons (pe_op op_sub (pv 2) pe_int) (pa_cons (pv 3) (pa_cons (pv 4) pa_nil)))))))
    (pss_cons (ps_set (i := 11) nd rfl (Or.inl rfl) (pe_call G_law_block (hr.mono (by omega)) rfl T.g_law_block T.k_law_block T.b_law_block .nil pass0 (pa_cons (pv 0) (pa_cons (pv 1) (pa_cons (pe_op op_sub (pv 2) pe_int) (pa_cons (pv 3) (pa_cons (pv 4) pa_nil)))))))
    (pss_cons (ps_set (i := 12) nd rfl (Or.inl rfl) (pe_op op_cat (pe_lst (pa_cons (pe_op op_add_str pe_str (pe_ix ix_tup (pv 8) pe_int (fun _ _ => rfl))) pa_nil)) (pe_ix ix_tup (pv 10) pe_int (fun _ _ => rfl))))
    (C8.pss_cut (ps_if (PW.pt (pw_or (pt_cmpR op_gt (pe_callB call_len_seq (by rfl) T.z_len (by decide +kernel) (pa_cons (pe_ix ix_tup (pv 11) pe_int (fun _ _ => rfl)) pa_nil)) pe_int (nomark _)) (pw_or1 (pt_cmpR op_eq (pv 6) pe_str (nomark _))))) 
      (pss_one (ps_set (i := 12) nd rfl (Or.inl rfl) (pe_op op_cat (pe_op op_cat (pv 12) (pe_lst (pa_cons pe_str (pa_cons pe_str pa_nil)))) (pe_ix ix_tup (pv 11) pe_int (fun _ _ => rfl))))) pss_nil)
    (pss_one (ps_ret (pe_tup (pa_cons (pe_tup (pa_cons pe_str (pa_cons (pe_ix ix_tup (pv 8) pe_int (fun _ _ => rfl)) (pa_cons (pe_ix ix_tup (pv 10) pe_int (fun _ _ => rfl)) (pa_cons (pe_ix ix_tup (pv 11) pe_int (fun _ _ => rfl)) pa_nil))))) (pa_cons (pe_op op_cat (pv 12) (pe_lst (pa_cons (pe_op op_add_str (pv 6) pe_str) pa_nil))) pa_nil))))))))))))))))), ?_⟩
  refine ⟨_, rfl, l, 6, rfl, by decide, hX.num, fun H1 i1 hB1 hN1 h0 h1 => ?_⟩
  have hX1 := hX.but hB1 hN1
  refine ⟨fun σ' H' => ∃ i2 : Int, 0 ≤ i2 ∧ i2 < 6 ∧ (n = 0 → i2 ≤ 3) ∧ H' = H1 ∧ σ' = [some (.ref l), some (.ref nl), some (.int (n : Nat)), some (.int (o : Nat)), some (.ref f), some (.int i2), none, none, none, none, none, none, none], ?_, ?_⟩
  · refine ⟨_, rfl, _, _, rfl, rfl, _, rfl, it2 (fun hgt => ⟨_, rfl, rfl, _, rfl, it2 (fun he => ⟨_, rfl, _, _, rfl, rfl, ?_⟩) fun he => ?_⟩) fun hgt => ?_⟩
    · have h2 := of_decide_eq_true hgt
      exact ⟨i1 - 4, by omega, by omega, fun _ => by omega, rfl, rfl⟩
    · have h2 := of_decide_eq_false he
      exact ⟨i1, h0, h1, fun z => absurd (by rw [z] <;> rfl) h2, rfl, rfl⟩
    · have h2 := of_decide_eq_false hgt
      exact ⟨i1, h0, h1, fun z => by omega, rfl, rfl⟩
  rintro σ' H' ⟨i2, hi0, hi1, hi2, rfl, rfl⟩
  refine ⟨_, rfl, l, 2, rfl, by decide, hN1, fun H2 j hB2 hN2 j0 j1 => ⟨_, _, rfl, rfl, 1 + j, rfl, rfl, by omega, ?_⟩⟩
  have hX2 := hX1.but hB2 hN2
  have bB2 : But2 l f H H2 := (hB1.trans hB2).b2
  generalize 1 + j = y
  have ly := spc_len y
  have hoo : 0 < o ∧ o ≤ 3 := ⟨by have := hX.o1; omega, by have := hX.o3; omega⟩
  have bE : 2 * bT 2 + 2 ≤ 700 := by decide
  have bE1 : 2 * bT 1 + 2 ≤ 700 := by decide
  have bEq : 2 * bT 2 + 2 = 586 := by decide
  have bEq1 : 2 * bT 1 + 2 = 138 := by decide
  by_cases e0 : i2 = 0
  · -- put
    subst e0
    refine ⟨_, rfl, rfl, _, rfl, itT rfl ?_⟩
    refine ⟨_, rfl, _, rfl, l, o, rfl, by omega, hN2, fun H3 j3 hB3 hN3 j30 j31 => ⟨_, _, rfl, rfl, ?_⟩⟩
    obtain ⟨kk, hkk⟩ : ∃ kk : Nat, 1 + j3 = (kk : Nat) := ⟨(1 + j3).toNat, by omega⟩
    dsimp only
    rw [hkk]
    have hk3 : kk ∈ ([1, 2, 3] : List Nat) := by
      have : kk = 1 ∨ kk = 2 ∨ kk = 3 := by omega
      simpa using this
    obtain ⟨ns1, ns2⟩ := num_str kk hk3
    have hX3 := hX2.but hB3 hN3
    refine ⟨_, rfl, _, rfl, true, 2, l, nl, kn, rfl, rfl, hN3, hX3.nam, hX3.ne1, hX3.kok, fun H4 q4 v4 x4 t4 z4 hB4 hN4 hq4 hd4 hx4 hl4 hc4 hz4 => ?_⟩
    refine ⟨_, rfl, _, rfl, q4, _, _, _, rfl, rfl, .inl (.inl hq4), rfl, by show 3 ≤ sizeLine; decide, fun p1 hp1 => ?_⟩
    have s5 := same_new hp1 (.tup [.str "put", .int (kk : Nat), v4])
    have hlog : ((kk : Nat) : Int).natAbs.log2 < 1920 := by
      have : kk = 1 ∨ kk = 2 ∨ kk = 3 := by omega
      rcases this with rfl | rfl | rfl <;> decide
    refine ⟨_, rfl, _, _, rfl, rfl, sz (by show (spc y).length + 4 ≤ 100000; omega), _, rfl, _, rfl, hlog, ?_⟩
    rw [ns1]
    have l1 : (numZ kk).length = 1 := rfl
    have lp : ("put " : Str).length = 4 := by decide +kernel
    refine ⟨_, _, rfl, rfl, sz (by simp only [len_app]; omega), _, rfl, _, _, rfl, rfl, sz (by simp only [len_app]; omega), _, rfl, q4, _, _, _, rfl, rfl, .inl (.inl (s5 _ _ hq4)), rfl, _, _, rfl, rfl, sz (by simp only [len_app]; omega), ?_⟩
    refine ⟨by show 1 ≤ sizeLine; decide, fun p2 hp2 => ?_⟩
    have s6 := same_new hp2 (.lst [.str (spc y ++ ("put " : Str) ++ numZ kk ++ spc y ++ z4)])
    refine ⟨by show 2 ≤ sizeLine; decide, fun p3 hp3 => ?_⟩
    have s7 := same_new hp3 (.tup [.ref p1, .ref p2])
    have bX : But2 l f H H4 := bB2.trans (hB3.trans hB4).b2
    have hX4 := hX3.but hB4 hN4
    have s57 := s5.trans (s6.trans s7)
    refine k _ p3 (.ref p1) p2 (.tuple [dS "put", .int (kk : Nat), x4]) [spc y ++ ("put " : Str) ++ numZ kk ++ spc y ++ z4] [tW "put" :: tW (numZ kk) :: t4] kn 1 lf (bX.trans (But2.same s57)) (hN4.same s57) (hX4.lef.same s57) upd_same (dp_same (s6.trans s7) _ _ (dp_tup upd_same (.cons (.str _) (.cons (.int _) (.cons (dp_same s5 _ _ hd4) .nil))))) ?_ (s7 _ _ upd_same) (LLs.one (ln_put ns2 hl4) ?_ ?_) ?_ (by simp) rfl
    · have hb : StB o kn (.tuple [dS "put", .int (kk : Nat), x4]) [tW "put" :: tW (numZ kk) :: t4] kn 1 := .inl ⟨kk, x4, t4, by omega, by omega, by omega, hx4, rfl, rfl, rfl, rfl⟩
      cases n with
      | zero => exact hb
      | succ n => exact .inl hb
    · have w1 : LnC ("put " : Str) := by decide +kernel
      exact ((((spc_lnc y).app w1).app (wd_of ns2).ln).app (spc_lnc y)).app hc4
    · simp only [len_app]
      omega
    · exact bX.free hN4 hX4.lef (s5.free hp2)
  refine ⟨_, rfl, rfl, _, rfl, itF (decide_eq_false fun z => e0 (V.int.inj z)) ?_⟩
  by_cases e1 : i2 = 1
  · -- fail
    subst e1
    refine ⟨_, rfl, rfl, _, rfl, itT rfl ?_⟩
    refine ⟨by show 1 ≤ sizeLine; decide, fun p1 hp1 => ?_⟩
    have s5 := same_new hp1 (.tup [.str "fail"])
    have lp : ("fail" : Str).length = 4 := by decide +kernel
    refine ⟨_, rfl, _, _, rfl, rfl, sz (by omega), by show 1 ≤ sizeLine; decide, fun p2 hp2 => ?_⟩
    have s6 := same_new hp2 (.lst [.str (("fail" : Str) ++ spc y)])
    refine ⟨by show 2 ≤ sizeLine; decide, fun p3 hp3 => ?_⟩
    have s7 := same_new hp3 (.tup [.ref p1, .ref p2])
    have s57 := s5.trans (s6.trans s7)
    refine k _ p3 (.ref p1) p2 (.tuple [dS "fail"]) [("fail" : Str) ++ spc y] [[tW "fail"]] kn 1 lf (bB2.trans (But2.same s57)) (hN2.same s57) (hX2.lef.same s57) upd_same (dp_same (s6.trans s7) _ _ (dp_tup upd_same (.cons (.str _) .nil))) ?_ (s7 _ _ upd_same) (LLs.one ln_fail ?_ ?_) ?_ (by simp) rfl
    · have hb : StB o kn (.tuple [dS "fail"]) [[tW "fail"]] kn 1 := .inr (.inl ⟨rfl, rfl, rfl, rfl⟩)
      cases n with
      | zero => exact hb
      | succ n => exact .inl hb
    · have w1 : LnC ("fail" : Str) := by decide +kernel
      exact w1.app (spc_lnc y)
    · simp only [len_app]
      omega
    · exact bB2.free hN2 hX2.lef (s5.free hp2)
  refine ⟨_, rfl, rfl, _, rfl, itF (decide_eq_false fun z => e1 (V.int.inj z)) ?_⟩
  by_cases e2 : i2 < 4
  · -- let
    refine ⟨_, rfl, _, _, rfl, rfl, _, rfl, itT (decide_eq_true e2) ?_⟩
    refine ⟨by decide, fun p0 hp0 => ?_⟩
    have s3 := same_new hp0 (.lst (nmL.map V.str))
    have npl : p0 ≠ l := (hN2.ne hp0).symm
    refine ⟨_, rfl, l, 3, rfl, by decide, hN2.same s3, fun H3 j3 hB3 hN3 j30 j31 => ?_⟩
    obtain ⟨x, hx, ha⟩ := at_strs (l := nmL) j30 j31
    obtain ⟨hid, hst⟩ := nmF x (List.mem_append_left _ hx)
    refine ⟨p0, _, _, _, rfl, rfl, SqL.of (hB3 _ _ upd_same npl), ha, ?_⟩
    have hX3 := (hX2.same s3).but hB3 hN3
    refine ⟨_, rfl, _, rfl, true, 2, l, nl, kn, rfl, rfl, hN3, hX3.nam, hX3.ne1, hX3.kok, fun H4 q4 v4 x4 t4 z4 hB4 hN4 hq4 hd4 hx4 hl4 hc4 hz4 => ?_⟩
    refine ⟨_, rfl, _, rfl, q4, _, _, _, rfl, rfl, .inl (.inl hq4), rfl, by show 3 ≤ sizeLine; decide, fun p1 hp1 => ?_⟩
    have s5 := same_new hp1 (.tup [.str "let", .str x, v4])
    have lx := (wd_id hid).len
    have lp : ("let" : Str).length = 3 ∧ (" " : Str).length = 1 := by decide +kernel
    refine ⟨_, rfl, _, _, rfl, rfl, sz (by omega), _, rfl, _, _, rfl, rfl, sz (by simp only [len_app]; omega), _, _, rfl, rfl, sz (by simp only [len_app]; omega), _, rfl, q4, _, _, _, rfl, rfl, .inl (.inl (s5 _ _ hq4)), rfl, _, _, rfl, rfl, sz (by simp only [len_app]; omega), ?_⟩
    refine ⟨by show 1 ≤ sizeLine; decide, fun p2 hp2 => ?_⟩
    have s6 := same_new hp2 (.lst [.str (("let" : Str) ++ spc y ++ x ++ (" " : Str) ++ z4)])
    refine ⟨by show 2 ≤ sizeLine; decide, fun p3 hp3 => ?_⟩
    have s7 := same_new hp3 (.tup [.ref p1, .ref p2])
    have bX : But2 l f H H4 := bB2.trans ((But2.same s3).trans (hB3.trans hB4).b2)
    have hX4 := hX3.but hB4 hN4
    have s57 := s5.trans (s6.trans s7)
    refine k _ p3 (.ref p1) p2 (.tuple [dS "let", dS x, x4]) [("let" : Str) ++ spc y ++ x ++ (" " : Str) ++ z4] [tW "let" :: tW x :: t4] (if x ∈ kn then kn else kn ++ [x]) 1 lf (bX.trans (But2.same s57)) (hN4.same s57) (hX4.lef.same s57) upd_same (dp_same (s6.trans s7) _ _ (dp_tup upd_same (.cons (.str _) (.cons (.str _) (.cons (dp_same s5 _ _ hd4) .nil))))) ?_ (s7 _ _ upd_same) (LLs.one (ln_let hid hl4) ?_ ?_) ?_ (by simp) rfl
    · have hb : StB o kn (.tuple [dS "let", dS x, x4]) [tW "let" :: tW x :: t4] (if x ∈ kn then kn else kn ++ [x]) 1 := .inr (.inr ⟨x, x4, t4, hid, hst, hx4, rfl, rfl, rfl, rfl⟩)
      cases n with
      | zero => exact hb
      | succ n => exact .inl hb
    · have w1 : LnC ("let" : Str) ∧ LnC (" " : Str) := by decide +kernel
      exact (((w1.1.app (spc_lnc y)).app (wd_id hid).ln).app w1.2).app hc4
    · simp only [len_app]
      omega
    · exact bX.free hN4 hX4.lef (s5.free hp2)
  refine ⟨_, rfl, _, _, rfl, rfl, _, rfl, itF (decide_eq_false e2) ?_⟩
  obtain ⟨m, rfl⟩ : ∃ m, n = m + 1 := by
    cases n with
    | zero => have := hi2 rfl; omega
    | succ m => exact ⟨m, rfl⟩
  have edm : ((m + 1 : Nat) : Int) - 1 = ((m : Nat) : Int) := by omega
  refine ⟨_, rfl, _, rfl, false, 1, l, nl, kn, rfl, rfl, hN2, hX2.nam, hX2.ne1, hX2.kok, fun H4 q4 v4 x4 t4 z4 hB4 hN4 hq4 hd4 hx4 hl4 hc4 hz4 => ?_⟩
  have hX4 := hX2.but hB4 hN4
  have bB4 : But2 l f H H4 := bB2.trans hB4.b2
  have hx42 := exD_mono hx4
  have gx := (exD_good hx4).tup
  by_cases e4 : i2 = 4
  · subst e4
    refine ⟨_, rfl, rfl, _, rfl, itT rfl ?_⟩
    refine ⟨by decide, fun p0 hp0 => ?_⟩
    have s5 := same_new hp0 (.lst (neL.map V.str))
    have npl : p0 ≠ l := (hN4.ne hp0).symm
    refine ⟨_, rfl, l, 2, rfl, by decide, hN4.same s5, fun H5 j5 hB5 hN5 j50 j51 => ?_⟩
    obtain ⟨x, hx, ha⟩ := at_strs (l := neL) j50 j51
    obtain ⟨hid, hst⟩ := nmF x (List.mem_append_right _ hx)
    refine ⟨p0, _, _, _, rfl, rfl, SqL.of (hB5 _ _ upd_same npl), ha, ?_⟩
    have hX5 := (hX4.same s5).but hB5 hN5
    have hq5 : H5 q4 = some (.tup [v4, .str z4]) := (hB5.fk (hN4.same s5).nt).t _ _ (s5 _ _ hq4)
    have hd5 : Dp K H5 v4 x4 := (hB5.fk (hN4.same s5).nt).dp gx (dp_same s5 _ _ hd4)
    refine ⟨_, rfl, _, rfl, _, rfl, by show 1 ≤ sizeLine; decide, fun p6 hp6 => ?_⟩
    have s6 := same_new hp6 (.lst [.str x])
    have hX6 := hX5.same s6
    refine ⟨nl, p6, _, _, rfl, rfl, hX6.nam, upd_same, sz (by have := hX.knl; rw [List.length_map]; simp; omega), fun nl2 hnl2 => ?_⟩
    have s7 := same_new hnl2 (.lst (kn.map V.str ++ [.str x]))
    have hX7 := hX6.same s7
    have hXb : LCx (upd (upd H5 p6 (.lst [.str x])) nl2 (.lst (kn.map V.str ++ [.str x]))) l nl2 f (kn ++ [x]) o lf := by
      refine ⟨hX7.num, by rw [upd_same, List.map_append] <;> rfl, hX7.lef, (hX6.num.ne hnl2).symm, hX6.lef.ne hnl2, hX7.ne3, hX7.o1, hX7.o3, by simp, by simp; omega, fun y hy => ?_⟩
      rcases List.mem_append.mp hy with h | h
      · exact hX.kid y h
      · rw [List.mem_singleton.mp h]; exact hid
    refine ⟨_, rfl, _, _, rfl, rfl, _, rfl, _, rfl, m, l, nl2, f, kn ++ [x], o, lf, rfl, congrArg (fun y : Int => [V.ref l, V.ref nl2, V.int y, V.int (o : Nat), V.ref f]) edm, hXb, fun H8 q8 v8 lp8 ds zs ls c lf' hB8 hN8 hf8 hq8 hd8 hbk hlp8 hL8 hlp80 hz8 hlf8 => ?_⟩
    have s67 := s6.trans s7
    have f8 := hB8.nt hXb.num hXb.lef
    have hq48 : H8 q4 = some (.tup [v4, .str z4]) := f8.t _ _ (s67 _ _ hq5)
    have hd48 : Dp K H8 v4 x4 := f8.dp gx (dp_same s67 _ _ hd5)
    have bX : But2 l f H H8 := bB4.trans ((But2.same s5).trans (hB5.b2.trans ((But2.same s67).trans hB8)))
    have hcl : c ≤ 50 := by have := hX.knl; omega
    refine ⟨_, rfl, _, rfl, q4, _, _, _, rfl, rfl, .inl (.inl hq48), rfl, _, rfl, q8, _, _, _, rfl, rfl, .inl (.inl hq8), rfl, by show 4 ≤ sizeLine; decide, fun p1 hp1 => ?_⟩
    have t1 := same_new hp1 (.tup [.str "each", .str x, v4, v8])
    have lx := (wd_id hid).len
    have lp : ("each " : Str).length = 5 ∧ (" in" : Str).length = 3 := by decide +kernel
    refine ⟨_, rfl, _, _, rfl, rfl, sz (by omega), _, _, rfl, rfl, sz (by simp only [len_app]; omega), _, rfl, _, _, rfl, rfl, sz (by simp only [len_app]; omega), _, rfl, q4, _, _, _, rfl, rfl, .inl (.inl (t1 _ _ hq48)), rfl, _, _, rfl, rfl, sz (by simp only [len_app]; omega), ?_⟩
    refine ⟨by show 1 ≤ sizeLine; decide, fun p2 hp2 => ?_⟩
    have t2 := same_new hp2 (.lst [.str (("each " : Str) ++ x ++ (" in" : Str) ++ spc y ++ z4)])
    refine ⟨_, rfl, q8, _, _, _, rfl, rfl, .inl (.inl (t2 _ _ (t1 _ _ hq8))), rfl, p2, lp8, _, _, rfl, rfl, upd_same, t2 _ _ (t1 _ _ hlp8), sz (by rw [List.length_map]; simp; omega), fun p3 hp3 => ?_⟩
    have t3 := same_new hp3 (.lst ([.str (("each " : Str) ++ x ++ (" in" : Str) ++ spc y ++ z4)] ++ zs.map V.str))
    refine ⟨by show 1 ≤ sizeLine; decide, fun p4 hp4 => ?_⟩
    have t4' := same_new hp4 (.lst [.str "end"])
    refine ⟨p3, p4, _, _, rfl, rfl, t4' _ _ upd_same, upd_same, sz (by simp; omega), fun p5 hp5 => ?_⟩
    have t5 := same_new hp5 (.lst ([.str (("each " : Str) ++ x ++ (" in" : Str) ++ spc y ++ z4)] ++ zs.map V.str ++ [.str "end"]))
    refine ⟨by show 2 ≤ sizeLine; decide, fun p9 hp9 => ?_⟩
    have t6 := same_new hp9 (.tup [.ref p1, .ref p5])
    have t26 := t2.trans (t3.trans (t4'.trans (t5.trans t6)))
    have t16 := t1.trans t26
    refine k _ p9 (.ref p1) p5 (.tuple [dS "each", dS x, x4, .tuple ds]) (((("each " : Str) ++ x ++ (" in" : Str) ++ spc y ++ z4) :: zs) ++ [("end" : Str)]) ((tW "each" :: tW x :: tW "in" :: t4) :: (ls ++ [[tW "end"]])) kn (c + 1) lf' (bX.trans (But2.same t16)) (hN8.same t16) (hf8.same t16) upd_same (dp_same t26 _ _ (dp_tup upd_same (.cons (.str _) (.cons (.str _) (.cons (dp_same t1 _ _ hd48) (.cons (dp_same t1 _ _ hd8) .nil)))))) ?_ ?_ ?_ ?_ ?_ (by omega)
    · exact .inr (.inl ⟨x, x4, t4, ds, ls, c, hid, hst, hx42, hbk, rfl, rfl, rfl, rfl⟩)
    · refine t6 _ _ ?_
      rw [upd_same, List.map_append] <;> rfl
    · have w1 : LnC ("each " : Str) ∧ LnC (" in" : Str) ∧ LnC ("end" : Str) := by decide +kernel
      refine LLs.app (zs := _ :: zs) (ts := _ :: ls) ⟨⟨ln_each hid hl4, (((w1.1.app (wd_id hid).ln).app w1.2.1).app (spc_lnc y)).app hc4, ?_⟩, hL8⟩ (LLs.one (ln_word (by decide +kernel)) w1.2.2 (by decide))
      simp only [len_app]
      omega
    · exact bX.free hN8 hf8 (t1.free (t2.free (t3.free (t4'.free hp5))))
    · simp
      omega
  · refine ⟨_, rfl, rfl, _, rfl, itF (decide_eq_false fun z => e4 (V.int.inj z)) ?_⟩
    refine ⟨_, rfl, _, rfl, _, rfl, _, _, rfl, rfl, _, rfl, _, rfl, m, l, nl, f, kn, o, lf, rfl, congrArg (fun y : Int => [V.ref l, V.ref nl, V.int y, V.int (o : Nat), V.ref f]) edm, hX4, fun H5 q5 v5 lp5 d1 z1 l1 c1 lf1 hB5 hN5 hf5 hq5 hd5 hb1 hlp5 hL5 hlp50 hz5 hlf5 => ?_⟩
    have hX5 := hX4.b2 hB5 hN5 hf5 (by omega)
    refine ⟨_, rfl, _, rfl, _, rfl, _, _, rfl, rfl, _, rfl, _, rfl, m, l, nl, f, kn, o, lf1, rfl, congrArg (fun y : Int => [V.ref l, V.ref nl, V.int y, V.int (o : Nat), V.ref f]) edm, hX5, fun H6 q6 v6 lp6 d2 z2 l2 c2 lf2 hB6 hN6 hf6 hq6 hd6 hb2 hlp6 hL6 hlp60 hz6 hlf6 => ?_⟩
    have f5 := hB5.nt hX4.num hX4.lef
    have f6 := hB6.nt hX5.num hX5.lef
    have hq46 : H6 q4 = some (.tup [v4, .str z4]) := f6.t _ _ (f5.t _ _ hq4)
    have hd46 : Dp K H6 v4 x4 := f6.dp gx (f5.dp gx hd4)
    have hq56 := f6.t _ _ hq5
    have g1 : tupd (.tuple d1) = true := blk_tup hb1
    have hd56 := f6.dp g1 hd5
    obtain ⟨ns5, hns5, _⟩ := id hN5
    have nlp5 : lp5 ≠ l := fun e => by
      obtain ⟨ns, hns, _⟩ := hX4.num
      rw [← e, hlp50] at hns
      cases hns
    have nfp5 : lp5 ≠ f := fun e => by
      obtain ⟨_, _, hns⟩ := hX4.lef
      rw [← e, hlp50] at hns
      cases hns
    have hlp56 : H6 lp5 = some (.lst (z1.map V.str)) := hB6 _ _ hlp5 nlp5 nfp5
    have bX : But2 l f H H6 := bB4.trans (hB5.trans hB6)
    have hcl : c1 + c2 ≤ 50 := by have := hX.knl; omega
    have lp : ("if " : Str).length = 3 := by decide +kernel
    refine ⟨_, rfl, q4, _, _, _, rfl, rfl, .inl (.inl hq46), rfl, _, _, rfl, rfl, sz (by omega), by show 1 ≤ sizeLine; decide, fun p1 hp1 => ?_⟩
    have t1 := same_new hp1 (.lst [.str (("if " : Str) ++ z4)])
    refine ⟨_, rfl, q5, _, _, _, rfl, rfl, .inl (.inl (t1 _ _ hq56)), rfl, p1, lp5, _, _, rfl, rfl, upd_same, t1 _ _ hlp56, sz (by rw [List.length_map]; simp; omega), fun p2 hp2 => ?_⟩
    have t2 := same_new hp2 (.lst ([.str (("if " : Str) ++ z4)] ++ z1.map V.str))
    have t12 := t1.trans t2
    have w1 : LnC ("if " : Str) ∧ LnC ("# other" : Str) ∧ LnC ("else" : Str) ∧ LnC ("end" : Str) := by decide +kernel
    have hLif : LLs ((("if " : Str) ++ z4) :: z1) ((tW "if" :: t4) :: l1) := ⟨⟨ln_if hl4, w1.1.app hc4, by simp only [len_app]; omega⟩, hL5⟩
    have hp2v : (upd (upd H6 p1 (.lst [.str (("if " : Str) ++ z4)])) p2 (.lst ([.str (("if " : Str) ++ z4)] ++ z1.map V.str))) p2 = some (.lst (((("if " : Str) ++ z4) :: z1).map V.str)) := upd_same
    generalize upd (upd H6 p1 (.lst [.str (("if " : Str) ++ z4)])) p2 (.lst ([.str (("if " : Str) ++ z4)] ++ z1.map V.str)) = H7 at t12 hp2v ⊢
    obtain ⟨a6, xs6, rfl, hsq6, hxa6⟩ := dp_inv (dp_same t12 _ _ hd6)
    have hx6l : xs6.length = d2.length := dpa_len _ _ hxa6
    refine ⟨MidIf (fun pz => [some (.ref l), some (.ref nl), some (.int ((m + 1 : Nat))), some (.int (o : Nat)), some (.ref f), some (.int i2), some (.str (spc y)), none, some (.ref q4), none, some (.ref q5), some (.ref q6), some (.ref pz)]) H7 t4 d2 l1 l2 c1 c2, ?_, ?_⟩
    · have yes : ∀ H', Same H7 H' → L2.tAsg (tOp rCat (tOp rCat (tVar 12) (tLst (tCons (tC (.str "# other")) (tCons (tC (.str "else")) tNil)))) (tOp (rIxT K) (tVar 11) (tC (.int 1)))) (gName 12) { nx := MidIf (fun pz => [some (.ref l), some (.ref nl), some (.int ((m + 1 : Nat))), some (.int (o : Nat)), some (.ref f), some (.int i2), some (.str (spc y)), none, some (.ref q4), none, some (.ref q5), some (.ref q6), some (.ref pz)]) H7 t4 d2 l1 l2 c1 c2, rt := Q } [some (.ref l), some (.ref nl), some (.int ((m + 1 : Nat))), some (.int (o : Nat)), some (.ref f), some (.int i2), some (.str (spc y)), none, some (.ref q4), none, some (.ref q5), some (.ref q6), some (.ref p2)] H' := by
        intro H8 s8
        refine ⟨_, rfl, by show 2 ≤ sizeLine; decide, fun p3 hp3 => ?_⟩
        have u1 := same_new hp3 (.lst [.str "# other", .str "else"])
        refine ⟨p2, p3, _, _, rfl, rfl, u1 _ _ (s8 _ _ hp2v), upd_same, sz (by simp; omega), fun p4 hp4 => ?_⟩
        have u2 := same_new hp4 (.lst (((("if " : Str) ++ z4) :: z1).map V.str ++ [.str "# other", .str "else"]))
        refine ⟨_, rfl, q6, _, _, _, rfl, rfl, .inl (.inl (u2 _ _ (u1 _ _ (s8 _ _ (t12 _ _ hq6))))), rfl, p4, lp6, _, _, rfl, rfl, upd_same, u2 _ _ (u1 _ _ (s8 _ _ (t12 _ _ hlp6))), sz (by simp; omega), fun p5 hp5 => ?_⟩
        have u3 := same_new hp5 (.lst (((("if " : Str) ++ z4) :: z1).map V.str ++ [.str "# other", .str "else"] ++ z2.map V.str))
        refine ⟨p5, ((("if " : Str) ++ z4) :: z1) ++ [("# other" : Str), "else"] ++ z2, ((tW "if" :: t4) :: l1) ++ [[], [tW "else"]] ++ l2, rfl, s8.trans (u1.trans (u2.trans u3)), ?_, ?_, ?_, .inr (by simp)⟩
        · rw [upd_same, List.map_append, List.map_append] <;> rfl
        · exact (hLif.app (ys := [("# other" : Str), "else"]) (us := [[], [tW "else"]]) ⟨⟨ln_note, w1.2.1, by decide⟩, ⟨ln_word (by decide +kernel), w1.2.2.1, by decide⟩, trivial⟩).app hL6
        · simp
          omega
      refine ⟨_, rfl, q6, _, _, _, rfl, rfl, .inl (.inl (t12 _ _ hq6)), rfl, a6, _, rfl, .inr hsq6, _, _, rfl, rfl, _, rfl, it2 (fun _ => itT rfl (yes H7 (Same.refl _))) fun hz => ⟨_, rfl, rfl, _, rfl, it2 (fun _ => yes H7 (Same.refl _)) fun _ => ?_⟩⟩
      have hz0 := of_decide_eq_false hz
      have hd20 : d2 = [] := List.length_eq_zero_iff.mp (by omega)
      subst hd20
      have hc20 : c2 = 0 ∧ l2 = [] := by
        cases hb2
        exact ⟨rfl, rfl⟩
      exact ⟨p2, _, _, rfl, Same.refl _, hp2v, hLif, by simp; omega, .inl ⟨rfl, hc20.1, rfl⟩⟩
    · rintro σ' H8 ⟨pz, zz, lz, rfl, s8, hpz, hLz, hzl, hor⟩
      have s68 := t12.trans s8
      refine ⟨_, rfl, q4, _, _, _, rfl, rfl, .inl (.inl (s68 _ _ hq46)), rfl, _, rfl, q5, _, _, _, rfl, rfl, .inl (.inl (s68 _ _ hq56)), rfl, _, rfl, q6, _, _, _, rfl, rfl, .inl (.inl (s68 _ _ hq6)), rfl, by show 4 ≤ sizeLine; decide, fun p3 hp3 => ?_⟩
      have u1 := same_new hp3 (.tup [.str "if", v4, v5, .ref a6])
      have le : ("end" : Str).length = 3 := by decide +kernel
      refine ⟨_, rfl, _, rfl, _, _, rfl, rfl, sz (by omega), by show 1 ≤ sizeLine; decide, fun p4 hp4 => ?_⟩
      have u2 := same_new hp4 (.lst [.str (spc y ++ ("end" : Str))])
      refine ⟨pz, p4, _, _, rfl, rfl, u2 _ _ (u1 _ _ hpz), upd_same, sz (by simp; omega), fun p5 hp5 => ?_⟩
      have u3 := same_new hp5 (.lst (zz.map V.str ++ [.str (spc y ++ ("end" : Str))]))
      refine ⟨by show 2 ≤ sizeLine; decide, fun p6 hp6 => ?_⟩
      have u4 := same_new hp6 (.tup [.ref p3, .ref p5])
      have u24 := u2.trans (u3.trans u4)
      have u14 := u1.trans u24
      have sA := s68.trans u14
      refine k _ p6 (.ref p3) p5 (.tuple [dS "if", x4, .tuple d1, .tuple d2]) (zz ++ [spc y ++ ("end" : Str)]) (lz ++ [[tW "end"]]) kn (c1 + c2 + 1) lf2 (bX.trans (But2.same sA)) (hN6.same sA) (hf6.same sA) upd_same (dp_same u24 _ _ (dp_tup upd_same (.cons (.str _) (.cons (dp_same (s68.trans u1) _ _ hd46) (.cons (dp_same (s68.trans u1) _ _ hd56) (.cons (dp_same (s68.trans u1) _ _ hd6) .nil)))))) ?_ ?_ ?_ ?_ ?_ (by omega)
      · refine .inr (.inr ⟨x4, t4, d1, l1, c1, d2, l2, c2, hx42, hb1, rfl, rfl, rfl, ?_⟩)
        rcases hor with ⟨h1, h2, rfl⟩ | rfl
        · exact .inl ⟨h1, h2, rfl⟩
        · exact .inr ⟨hb2, by simp⟩
      · refine u4 _ _ ?_
        rw [upd_same, List.map_append] <;> rfl
      · exact hLz.app (LLs.one (ln_spc_word (by decide +kernel)) ((spc_lnc y).app w1.2.2.2) (by simp only [len_app]; omega))
      · exact bX.free hN6 hf6 (s68.free (u1.free (u2.free hp5)))
      · simp
        omega
/-- the recursion: blocks of depth d - 1 -/
theorem ok_law_blocks (T : Tp w K mg φ) : ∀ d : Nat, FnOk P w K mg base CX0 (2 * d + 7) (He.ga K "_law_block") (φ ("_law_block", none)) P_law_block (spLB K d)
  | 0 => fnOk_never fun vs H Q E h => by
      obtain ⟨n, l, nl, f, kn, o, lf, h, _⟩ := h
      omega
  | d + 1 => ok_law_block T d (ok_law_statement T d (ok_law_blocks T d))
end
end Ky

/-! The law's rules. -/
namespace Ky
open PySem PySem.Spec PyProof.Rows L2 TL
abbrev numT (k : Nat) : Str := Str.ofString (toString ((k : Nat) : Int))
def outS (pat : Bool) (k j : Nat) : Str := if pat then ("r" : Str) ++ numT k ++ ("/" : Str) ++ S [120 + j] ++ (".*" : Str) else ("r" : Str) ++ numT k ++ ("." : Str) ++ S [120 + j]
def filL : List Str := ["rules", "more", "a/b.c", "x_1", "real"]
theorem outF : ∀ (pat : Bool) (k : Fin 10) (j : Fin 3), okW (outS pat k j) ∧ pathB (outS pat k j) = !pat ∧ pattB (outS pat k j) = pat ∧ outS pat k j ≠ ":" ∧ wdB (outS pat k j) = true ∧ asc (tl (outS pat k j)) = true ∧ (outS pat k j).length ≤ 8 ∧ outS pat k j ∉ filL ∧
    (tl (outS pat k j))[1]? = some (48 + k.val) ∧ (tl (outS pat k j))[3]? = some (120 + j.val) ∧ (!(Builtin.Str.occurrences (outS pat k j) "*" 0 (outS pat k j).length 1).isEmpty) = pat := by decide +kernel
theorem wdF : ∀ (j : Fin 3), wdB (("in" : Str) ++ numT j) = true ∧ okW (("in" : Str) ++ numT j) ∧ pathB (("in" : Str) ++ numT j) = true ∧ asc (tl (("in" : Str) ++ numT j)) = true ∧ (("in" : Str) ++ numT j).length ≤ 5 := by decide +kernel
theorem wdS : wdB ("s/*.c" : Str) = true ∧ okW ("s/*.c" : Str) ∧ pathB ("s/*.c" : Str) = false ∧ pattB ("s/*.c" : Str) = true ∧ asc (tl ("s/*.c" : Str)) = true ∧ ("s/*.c" : Str).length ≤ 5 := by decide +kernel
/-! ### words and lines -/
theorem lx_words : ∀ {ws : List Str} {r : List Nat} {ts : Toks}, (∀ x ∈ ws, wdB x = true) → Stop r → Lx r ts → Lx (joinL [32] (ws.map tl) ++ r) (ws.map tW ++ ts)
  | [], _, _, _, _, h => h
  | [x], r, ts, hw, hs, h => by
    have w := wd_of (hw x List.mem_cons_self)
    exact Lx.wd w.n0 w.w hs h
  | x :: y :: ws, r, ts, hw, hs, h => by
    have w := wd_of (hw x List.mem_cons_self)
    have ih := lx_words (ws := y :: ws) (fun z hz => hw z (List.mem_cons_of_mem _ hz)) hs h
    show Lx (tl x ++ ([32] ++ joinL [32] ((y :: ws).map tl)) ++ r) (tW x :: ((y :: ws).map tW ++ ts))
    have e : tl x ++ ([32] ++ joinL [32] ((y :: ws).map tl)) ++ r = tl x ++ (32 :: (joinL [32] ((y :: ws).map tl) ++ r)) := by simp
    rw [e]
    exact Lx.wd w.n0 w.w (Stop.cons (by decide +kernel)) (.sp ih)
theorem joinL_all {p : Nat → Bool} {S : List Nat} (hS : S.all p = true) : ∀ {ws : List (List Nat)}, (∀ x ∈ ws, x.all p = true) → (joinL S ws).all p = true
  | [], _ => rfl
  | [x], h => h x List.mem_cons_self
  | x :: y :: ws, h => by
    show (x ++ (S ++ joinL S (y :: ws))).all p = true
    rw [List.all_append, List.all_append, h x List.mem_cons_self, hS, joinL_all hS fun z hz => h z (List.mem_cons_of_mem _ hz)] <;> rfl
theorem joinL_len {S : List Nat} {n : Nat} : ∀ {ws : List (List Nat)}, (∀ x ∈ ws, x.length ≤ n) → (joinL S ws).length ≤ ws.length * (n + S.length)
  | [], _ => Nat.zero_le _
  | [x], h => by
    have := h x List.mem_cons_self
    show x.length ≤ _
    rw [List.length_singleton, Nat.one_mul]
    omega
  | x :: y :: ws, h => by
    have h1 := h x List.mem_cons_self
    have h2 := joinL_len (S := S) (ws := y :: ws) fun z hz => h z (List.mem_cons_of_mem _ hz)
    show (x ++ (S ++ joinL S (y :: ws))).length ≤ _
    have e : (x :: y :: ws).length = (y :: ws).length + 1 := rfl
    rw [e, Nat.succ_mul, List.length_append, List.length_append]
    omega
/-- lines, each with its end -/
def lnT : List Str → List Nat
  | [] => []
  | z :: zs => tl z ++ 10 :: lnT zs
theorem lnT_app : ∀ (a b : List Str), lnT (a ++ b) = lnT a ++ lnT b
  | [], _ => rfl
  | z :: a, b => by
    show tl z ++ 10 :: lnT (a ++ b) = (tl z ++ 10 :: lnT a) ++ lnT b
    rw [lnT_app a b]
    simp
theorem lnT_join : ∀ {zs : List Str}, zs ≠ [] → joinL [10] (zs.map tl) ++ [10] = lnT zs
  | [], h => absurd rfl h
  | [z], _ => rfl
  | z :: y :: zs, _ => by
    have ih := lnT_join (zs := y :: zs) (by simp)
    show tl z ++ ([10] ++ joinL [10] ((y :: zs).map tl)) ++ [10] = tl z ++ 10 :: lnT (y :: zs)
    rw [← ih]
    simp
theorem LLs.len : ∀ {zs : List Str} {ls : List Toks}, LLs zs ls → zs.length = ls.length
  | [], [], _ => rfl
  | _ :: _, _ :: _, ⟨_, h⟩ => by rw [List.length_cons, List.length_cons, h.len]
theorem LLs.sum : ∀ {zs : List Str} {ls : List Toks}, LLs zs ls → (zs.map (·.length)).sum ≤ 700 * zs.length
  | [], [], _ => Nat.le_refl _
  | z :: zs, _ :: _, ⟨⟨_, _, h1⟩, h⟩ => by
    have := h.sum
    rw [List.map_cons, List.sum_cons, List.length_cons]
    omega
def inL (pat : Bool) (x : Str) : Prop := (∃ j : Fin 3, x = ("in" : Str) ++ numT j) ∨ (pat = true ∧ x = "s/*.c")
def rHd (rd : RuD) : Toks := tW (kwR rd.sealed) :: (rd.outs.map tW ++ tW ":" :: rd.ins.map tW)
/-- a rule and its lines -/
structure RuRel (k : Nat) (rd : RuD) (zs : List Str) : Prop where
  ex : ∃ (pat : Bool) (no : Nat) (bl : List Toks) (c : Nat), 1 ≤ no ∧ no ≤ 3 ∧ rd.outs = (List.range no).map (outS pat k) ∧ (∀ x ∈ rd.ins, inL pat x) ∧ rd.ins.length ≤ 3 ∧ BkD no 3 ["stem"] rd.body bl c ∧ c ≤ 9 ∧ LLs zs (rHd rd :: (bl ++ [[tW "end"]]))
/-- a due rule stands at v -/
def DueAt (K : PySem.W.Frag) (H : Hp) (v : V) (rd : RuD) : Prop := ∃ q to ti vb, v = .ref q ∧ H q = some (.tup [.ref to, .ref ti, .bl rd.sealed, vb]) ∧ H to = some (.tup (rd.outs.map V.str)) ∧ H ti = some (.tup (rd.ins.map V.str)) ∧ Dp K H vb (.tuple rd.body) ∧ GdA 30 rd.body
theorem ws_line {s : Bool} {outs ins : List Str} (h1 : ∀ x ∈ outs, wdB x = true) (h2 : ∀ x ∈ ins, wdB x = true) :
    LL (tl (kwR s ++ (" " : Str) ++ Txt.join " " outs ++ (" : " : Str) ++ Txt.join " " ins)) (tW (kwR s) :: (outs.map tW ++ tW ":" :: ins.map tW)) ∧ LnC (kwR s ++ (" " : Str) ++ Txt.join " " outs ++ (" : " : Str) ++ Txt.join " " ins) := by
  have e0 : tl (" " : Str) = [32] ∧ tl (" : " : Str) = 32 :: (tl (":" : Str) ++ [32]) := by decide +kernel
  have w1 : Wd (kwR s) := wd_of (by cases s <;> decide +kernel)
  have w2 : Wd ":" := wd_of (by decide +kernel)
  have hj : ∀ {ws : List Str}, (∀ x ∈ ws, wdB x = true) → LnC (Txt.join " " ws) := fun {ws} h => by
    unfold LnC
    rw [join_eq, tl_join, e0.1]
    refine joinL_all (by decide +kernel) fun x hx => ?_
    obtain ⟨y, hy, rfl⟩ := List.mem_map.mp hx
    exact (wd_of (h y hy)).ln
  have w3 : LnC (" " : Str) ∧ LnC (" : " : Str) := by decide +kernel
  refine ⟨?_, (((w1.ln.app w3.1).app (hj h1)).app w3.2).app (hj h2)⟩
  simp only [tl_append, join_eq, tl_join, e0.1, e0.2]
  have e : tl (kwR s) ++ [32] ++ joinL [32] (outs.map tl) ++ (32 :: (tl (":" : Str) ++ [32])) ++ joinL [32] (ins.map tl) = tl (kwR s) ++ (32 :: (joinL [32] (outs.map tl) ++ (32 :: (tl (":" : Str) ++ (32 :: (joinL [32] (ins.map tl) ++ [])))))) := by simp
  rw [e]
  have h3 := lx_words h2 Stop.nil Lx.nil
  rw [List.append_nil] at h3
  exact .inr ⟨w1.nsk _, Lx.wd w1.n0 w1.w (Stop.cons (by decide +kernel)) (.sp (lx_words h1 (Stop.cons (by decide +kernel)) (.sp (Lx.wd w2.n0 w2.w (Stop.cons (by decide +kernel)) (.sp (by rw [List.append_nil] at h3 ⊢; exact h3))))))⟩
end Ky

/-! The law's rules: the walk. -/
namespace Ky
open PySem PySem.Spec PyProof.Rows L2 TL
theorem sum_le {n : Nat} : ∀ {l : List Str}, (∀ x ∈ l, x.length ≤ n) → (l.map (·.length)).sum ≤ n * l.length
  | [], _ => Nat.le_refl _
  | x :: l, h => by
    have h1 := h x List.mem_cons_self
    have h2 := sum_le (l := l) fun y hy => h y (List.mem_cons_of_mem _ hy)
    rw [List.map_cons, List.sum_cons, List.length_cons, Nat.mul_add]
    omega
theorem join_len {l : List Str} {n k : Nat} (h : ∀ x ∈ l, x.length ≤ n) (hk : l.length ≤ k) : (Txt.join " " l).length ≤ k * (n + 1) := by
  have e0 : tl (" " : Str) = [32] := by decide +kernel
  rw [len_tl, join_eq, tl_join, e0]
  refine Nat.le_trans (joinL_len (n := n) fun x hx => ?_) ?_
  · obtain ⟨y, hy, rfl⟩ := List.mem_map.mp hx
    rw [← len_tl]
    exact h y hy
  · rw [List.length_map]
    exact Nat.mul_le_mul_right _ hk
section
variable {P : Program} {w : World} {K : PySem.W.Frag} {mg : Str → Option Value} {base : Heap} {φ : Str × Option Str → FuncData}
def spLR (K : PySem.W.Frag) : Sp := fun vs H Q _ => ∃ (l : Addr) (k : Nat), vs = [.ref l, .int (k : Nat)] ∧ k < 10 ∧ NumL H l ∧
  ∀ H' q vd rd txt zs, But l H H' → NumL H' l → H' q = some (.tup [vd, .str txt]) → DueAt K H' vd rd → RuRel k rd zs → tl txt ++ [10] = lnT zs → txt.length ≤ 330 → Q (.ref q) H'
theorem ok_law_rule (T : Tp w K mg φ) : FnOk P w K mg base CX0 16 (He.ga K "_law_rule") (φ ("_law_rule", none)) P_law_rule (spLR K) := by
  have G_law_take := ok_law_take (P := P) (base := base) T
  have G_law_block := ok_law_blocks (P := P) (base := base) T 4
  refine okF T.F_law_rule sc_law_rule (fun vs H Q E h => ?_) (fun cdv A outer s H vs Q E hr h => ?_)
  · obtain ⟨l, k, rfl, _⟩ := h
    rfl
  obtain ⟨l, kk, rfl, hk10, hN, k⟩ := h
  have nd := sc_law_rule.nd
  refine ⟨_, (pss_cons (ps_set (i := 2) nd rfl (Or.inl rfl) (pe_cmpR op_eq (pe_call G_law_take (hr.mono (by omega)) rfl T.g_law_take T.k_law_take T.b_law_take .nil pass0 (pa_cons (pv 0) (pa_cons pe_int pa_nil))) pe_int (nomark _)))
    (pss_cons (ps_set (i := 3) nd rfl (Or.inl rfl) (pe_lst pa_nil))
    (pss_cons (ps_set (i := 4) nd rfl (Or.inl rfl) (pe_lst pa_nil))
    (pss_cons (ps_for PassesOwn.never rfl (pi_range1 rfl T.z_range (pa_cons (pe_op op_add pe_int (pe_call G_law_take (hr.mono (by omega)) rfl T.g_law_take T.k_law_take T.b_law_take .nil pass0 (pa_cons (pv 0) (pa_cons pe_int pa_nil)))) pa_nil)) (pg_name (i := 5) nd rfl (Or.inl rfl)) 
      (pss_one (ps_if (pt_val (pv 2)) 
        (pss_one (ps_expr (pe_bm PySem.F.plainAttrs_list PySem.F.slot_list_append PySem.F.type_list_append mt_append (pv 3) (pa_cons (pe_op op_add_str (pe_op op_add_str (pe_op op_add_str (pe_op op_add_str pe_str (pe_callTy call_str_int (by rfl) T.z_str (by decide +kernel) (pa_cons (pv 1) pa_nil))) pe_str) (pe_ix ix_str pe_str (pv 5) (fun _ _ => rfl))) pe_str) pa_nil)))) 
        (pss_one (ps_expr (pe_bm PySem.F.plainAttrs_list PySem.F.slot_list_append PySem.F.type_list_append mt_append (pv 3) (pa_cons (pe_op op_add_str (pe_op op_add_str (pe_op op_add_str pe_str (pe_callTy call_str_int (by rfl) T.z_str (by decide +kernel) (pa_cons (pv 1) pa_nil))) pe_str) (pe_ix ix_str pe_str (pv 5) (fun _ _ => rfl))) pa_nil)))))))
    (pss_cons (ps_for PassesOwn.never rfl (pi_range1 rfl T.z_range (pa_cons (pe_call G_law_take (hr.mono (by omega)) rfl T.g_law_take T.k_law_take T.b_law_take .nil pass0 (pa_cons (pv 0) (pa_cons pe_int pa_nil))) pa_nil)) (pg_name (i := 5) nd rfl (Or.inl rfl)) 
      (pss_one (ps_if (PW.pt (pw_and (pt_val (pv 2)) (pw_and1 (pt_cmpR op_eq (pe_call G_law_take (hr.mono (by omega)) rfl T.g_law_take T.k_law_take T.b_law_take .nil pass0 (pa_cons (pv 0) (pa_cons pe_int pa_nil))) pe_int (nomark _))))) 
        (pss_one (ps_expr (pe_bm PySem.F.plainAttrs_list PySem.F.slot_list_append PySem.F.type_list_append mt_append (pv 4) (pa_cons pe_str pa_nil)))) 
        (pss_one (ps_expr (pe_bm PySem.F.plainAttrs_list PySem.F.slot_list_append PySem.F.type_list_append mt_append (pv 4) (pa_cons (pe_op op_add_str pe_str (pe_callTy call_str_int (by rfl) T.z_str (by decide +kernel) (pa_cons (pe_call G_law_take (hr.mono (by omega)) rfl T.g_law_take T.k_law_take T.b_law_take .nil pass0 (pa_cons (pv 0) (pa_cons pe_int pa_nil))) pa_nil))) pa_nil)))))))
    (pss_cons (ps_set (i := 6) nd rfl (Or.inl rfl) (pe_cmpR op_eq (pe_call G_law_take (hr.mono (by omega)) rfl T.g_law_take T.k_law_take T.b_law_take .nil pass0 (pa_cons (pv 0) (pa_cons pe_int pa_nil))) pe_int (nomark _)))
    (pss_cons (ps_set (i := 7) nd rfl (Or.inl rfl) (pe_call G_law_block (hr.mono (by omega)) rfl T.g_law_block T.k_law_block T.b_law_block .nil pass0 (pa_cons (pv 0) (pa_cons (pe_lst (pa_cons pe_str pa_nil)) (pa_cons pe_int (pa_cons (pe_callB call_len_seq (by rfl) T.z_len (by decide +kernel) (pa_cons (pv 3) pa_nil)) (pa_cons (pe_lst (pa_cons pe_int pa_nil)) pa_nil)))))))
    (pss_cons (ps_set (i := 8) nd rfl (Or.inl rfl) (pe_op op_add_str (pe_op op_add_str (pe_op op_add_str (pe_op op_add_str (pe_ix ix_list (pe_lst (pa_cons pe_str (pa_cons pe_str pa_nil))) (pe_callTy call_int1 (by rfl) T.z_int (by decide +kernel) (pa_cons (pv 6) pa_nil)) (fun _ _ => rfl)) pe_str) (pe_join pe_str (pv 3))) pe_str) (pe_join pe_str (pv 4))))
    (pss_cons (ps_set (i := 9) nd rfl (Or.inl rfl) (pe_join pe_str (pe_op op_cat (pe_op op_cat (pe_lst (pa_cons (pv 8) pa_nil)) (pe_ix ix_tup (pv 7) pe_int (fun _ _ => rfl))) (pe_lst (pa_cons pe_str pa_nil)))))
    (C8.pss_cut (ps_if (pt_cmpR op_gt (pe_callB call_len_str (by rfl) T.z_len (by decide +kernel) (pa_cons (pv 9) pa_nil)) pe_int (nomark _)) 
      (pss_cons (ps_set (i := 9) nd rfl (Or.inl rfl) (pe_op op_add_str (pv 8) pe_str))
      (pss_one (ps_set (i := 7) nd rfl (Or.inl rfl) (pe_tup (pa_cons (pe_tup pa_nil) (pa_cons (pe_lst pa_nil) pa_nil)))))) pss_nil)
    (pss_one (ps_ret (pe_tup (pa_cons (pe_tup (pa_cons (pe_callTy call_tuple_of (by rfl) T.z_tuple (by decide +kernel) (pa_cons (pv 3) pa_nil)) (pa_cons (pe_callTy call_tuple_of (by rfl) T.z_tuple (by decide +kernel) (pa_cons (pv 4) pa_nil)) (pa_cons (pv 6) (pa_cons (pe_ix ix_tup (pv 7) pe_int (fun _ _ => rfl)) pa_nil))))) (pa_cons (pv 9) pa_nil))))))))))))))), ?_⟩
  have hlogk : ((kk : Nat) : Int).natAbs.log2 < 1920 := by
    have h1 : ((kk : Nat) : Int).natAbs = kk := rfl
    rw [h1]
    have : Nat.log2 kk ≤ kk := Nat.log2_le_self kk
    omega
  refine ⟨_, rfl, l, 3, rfl, by decide, hN, fun H1 i1 hB1 hN1 _ _ => ⟨rfl, ?_⟩⟩
  generalize decide (V.int i1 = V.int 1) = pat
  refine ⟨Nat.zero_le _, fun lo hlo => ?_⟩
  have s1 := same_new hlo (.lst [])
  refine ⟨Nat.zero_le _, fun li hli => ?_⟩
  have s2 := same_new hli (.lst [])
  have noi : lo ≠ li := ne_of_none upd_same hli
  have s12 := s1.trans s2
  refine ⟨_, rfl, l, 3, rfl, by decide, hN1.same s12, fun H2 i2 hB2 hN2 j0 j1 => ⟨_, _, rfl, rfl, _, rfl, by omega, by omega, ?_⟩⟩
  have hlo0 : ∀ {p : Addr}, H1 p = none → p ≠ l := fun {p} h => (hN1.ne h).symm
  have hli1 : H1 li = none := s1.free hli
  have hlov : H2 lo = some (.lst []) := hB2 _ _ (s2 _ _ upd_same) (hlo0 hlo)
  have hliv : H2 li = some (.lst []) := hB2 _ _ upd_same (hlo0 hli1)
  have bX : But l H H2 := hB1.trans ((But.same s12).trans hB2)
  have flo : H2 lo ≠ none := by rw [hlov]; exact fun h => nomatch h
  obtain ⟨no, hno⟩ : ∃ no : Nat, (1 + i2).toNat = no := ⟨_, rfl⟩
  have hno3 : 1 ≤ no ∧ no ≤ 3 := by omega
  have H1lo : ∀ {c : Addr} {o : HO}, H c = some o → c ≠ l → c ≠ lo := fun h hn => ne_of_none (hB1 _ _ h hn) hlo
  have H1li : ∀ {c : Addr} {o : HO}, H c = some o → c ≠ l → c ≠ li := fun h hn => ne_of_none (hB1 _ _ h hn) hli1
  have nlo : lo ≠ l := hlo0 hlo
  have nli : li ≠ l := hlo0 hli1
  refine for_range (n := (1 + i2).toNat) (fun i σ H' => ∃ v5 : Option V, σ = [some (.ref l), some (.int (kk : Nat)), some (.bl pat), some (.ref lo), some (.ref li), v5, none, none, none, none] ∧ But l H H' ∧ NumL H' l ∧ H' lo = some (.lst (((List.range i).map (outS pat kk)).map V.str)) ∧ H' li = some (.lst []) ) ⟨none, rfl, bX, hN2, hlov, hliv⟩ ?_ ?_
  · rintro i σ H' hi ⟨v5, rfl, hB', hN', hlo', hli'⟩
    have hi3 : i < 3 := by omega
    have hxyz : ("xyz" : Str).length ≤ sizeLine ∧ atI ("xyz" : Str).cps.toList (0 + (i : Nat)) = some (120 + i) := by
      have key : ∀ j : Fin 3, ("xyz" : Str).length ≤ sizeLine ∧ atI ("xyz" : Str).cps.toList (0 + (j.val : Nat)) = some (120 + j.val) := by decide +kernel
      exact key ⟨i, hi3⟩
    have hfin : ∀ Hx x, x = outS pat kk i → Hx = upd H' lo (.lst (((List.range i).map (outS pat kk)).map V.str ++ [.str x])) → ∃ v5' : Option V, [some (V.ref l), some (.int (kk : Nat)), some (.bl pat), some (.ref lo), some (.ref li), some (.int (0 + (i : Nat))), none, none, none, none] = [some (V.ref l), some (.int (kk : Nat)), some (.bl pat), some (.ref lo), some (.ref li), v5', none, none, none, none] ∧ But l H Hx ∧ NumL Hx l ∧ Hx lo = some (.lst (((List.range (i + 1)).map (outS pat kk)).map V.str)) ∧ Hx li = some (.lst []) := by
      rintro Hx x rfl rfl
      obtain ⟨ns, hns, hns2⟩ := hN'
      refine ⟨_, rfl, fun c o h hn => ?_, ⟨ns, by rw [upd_ne nlo.symm]; exact hns, hns2⟩, ?_, by rw [upd_ne noi.symm]; exact hli'⟩
      · rw [upd_ne (H1lo h hn)]
        exact hB' _ _ h hn
      · rw [upd_same, List.range_succ, List.map_append, List.map_append] <;> rfl
    have hsz : (((List.range i).map (outS pat kk)).map V.str).length < sizeLine := szl (by simp; omega)
    have hnT : (numT kk).length ≤ 1 := by
      have key : ∀ j : Fin 10, (numT j.val).length ≤ 1 := by decide +kernel
      exact key ⟨kk, hk10⟩
    have lp : ("r" : Str).length = 1 ∧ ("/" : Str).length = 1 ∧ ("." : Str).length = 1 ∧ (".*" : Str).length = 2 := by decide +kernel
    have l1 : ∀ c : Nat, (S [c]).length = 1 := fun c => rfl
    refine ⟨_, rfl, _, rfl, ?_⟩
    cases pat with
    | true =>
      refine itT rfl ?_
      refine ⟨_, rfl, .inl ⟨rfl, _, SqL.of hlo'⟩, _, rfl, _, rfl, hlogk, _, _, rfl, rfl, sz (by show ("r" : Str).length + (numT kk).length ≤ 100000; omega), _, _, rfl, rfl, sz (by simp only [len_app]; show ("r" : Str).length + (numT kk).length + ("/" : Str).length ≤ 100000; omega), _, rfl, _, _, _, rfl, rfl, hxyz.1, hxyz.2, ?_⟩
      have q1 := l1 (120 + i)
      refine ⟨_, _, rfl, rfl, sz (by simp only [len_app]; show ("r" : Str).length + (numT kk).length + ("/" : Str).length + (S [120 + i]).length ≤ 100000; omega), _, _, rfl, rfl, sz (by simp only [len_app]; show ("r" : Str).length + (numT kk).length + ("/" : Str).length + (S [120 + i]).length + (".*" : Str).length ≤ 100000; omega), ?_⟩
      exact ⟨lo, _, _, rfl, rfl, hlo', hsz, hfin _ _ rfl rfl⟩
    | false =>
      refine itF rfl ?_
      refine ⟨_, rfl, .inl ⟨rfl, _, SqL.of hlo'⟩, _, rfl, _, rfl, hlogk, _, _, rfl, rfl, sz (by show ("r" : Str).length + (numT kk).length ≤ 100000; omega), _, _, rfl, rfl, sz (by simp only [len_app]; show ("r" : Str).length + (numT kk).length + ("." : Str).length ≤ 100000; omega), _, rfl, _, _, _, rfl, rfl, hxyz.1, hxyz.2, ?_⟩
      have q1 := l1 (120 + i)
      refine ⟨_, _, rfl, rfl, sz (by simp only [len_app]; show ("r" : Str).length + (numT kk).length + ("." : Str).length + (S [120 + i]).length ≤ 100000; omega), ?_⟩
      exact ⟨lo, _, _, rfl, rfl, hlo', hsz, hfin _ _ rfl rfl⟩
  rintro σ H3 ⟨v5, rfl, hB3, hN3, hlo3, hli3⟩
  rw [hno] at hlo3
  refine ⟨_, rfl, l, 4, rfl, by decide, hN3, fun H4 i4 hB4 hN4 k0 k1 => ⟨_, rfl, by omega, by omega, ?_⟩⟩
  have hlo4 := hB4 _ _ hlo3 nlo
  have hli4 := hB4 _ _ hli3 nli
  refine for_range (n := i4.toNat) (fun i σ H' => ∃ (v5 : Option V) (is : List Str), σ = [some (.ref l), some (.int (kk : Nat)), some (.bl pat), some (.ref lo), some (.ref li), v5, none, none, none, none] ∧ But l H H' ∧ NumL H' l ∧ H' lo = some (.lst (((List.range no).map (outS pat kk)).map V.str)) ∧ H' li = some (.lst (is.map V.str)) ∧ is.length = i ∧ ∀ x ∈ is, inL pat x) ⟨v5, [], rfl, hB3.trans hB4, hN4, hlo4, hli4, rfl, by simp⟩ ?_ ?_
  · rintro i σ H' hi ⟨v5, is, rfl, hB', hN', hlo', hli', hil, hin⟩
    have hfin : ∀ Hy Hx x, But l H Hy → NumL Hy l → Hy lo = some (.lst (((List.range no).map (outS pat kk)).map V.str)) → inL pat x → Hx = upd Hy li (.lst (is.map V.str ++ [.str x])) → ∃ (v5' : Option V) (is' : List Str), [some (V.ref l), some (.int (kk : Nat)), some (.bl pat), some (.ref lo), some (.ref li), some (.int (0 + (i : Nat))), none, none, none, none] = [some (V.ref l), some (.int (kk : Nat)), some (.bl pat), some (.ref lo), some (.ref li), v5', none, none, none, none] ∧ But l H Hx ∧ NumL Hx l ∧ Hx lo = some (.lst (((List.range no).map (outS pat kk)).map V.str)) ∧ Hx li = some (.lst (is'.map V.str)) ∧ is'.length = i + 1 ∧ ∀ x ∈ is', inL pat x := by
      rintro Hy Hx x b1 ⟨ns, hns, hns2⟩ b2 hx rfl
      refine ⟨_, is ++ [x], rfl, fun c o h hn => ?_, ⟨ns, by rw [upd_ne nli.symm]; exact hns, hns2⟩, by rw [upd_ne noi]; exact b2, by rw [upd_same, List.map_append] <;> rfl, by simp [hil], fun y hy => ?_⟩
      · rw [upd_ne (H1li h hn)]
        exact b1 _ _ h hn
      · rcases List.mem_append.mp hy with h | h
        · exact hin y h
        · rw [List.mem_singleton.mp h]; exact hx
    have hsz : (is.map V.str).length < sizeLine := szl (by rw [List.length_map]; omega)
    have other : ∀ Hy, But l H Hy → NumL Hy l → Hy lo = some (.lst (((List.range no).map (outS pat kk)).map V.str)) → Hy li = some (.lst (is.map V.str)) → (∀ (j : Int) (Hz : Hp), 0 ≤ j → j < 3 → But l H Hz → NumL Hz l → Hz lo = some (.lst (((List.range no).map (outS pat kk)).map V.str)) → Hz li = some (.lst (is.map V.str)) → ∃ jj : Fin 3, j = (jj.val : Nat) ∧ (numT jj).length ≤ 1 ∧ ((jj.val : Nat) : Int).natAbs.log2 < 1920) := by
      intro Hy _ _ _ _ j Hz j0 j1 _ _ _ _
      refine ⟨⟨j.toNat, by omega⟩, by show j = (j.toNat : Nat); omega, ?_, ?_⟩
      · have key : ∀ j : Fin 3, (numT j.val).length ≤ 1 := by decide +kernel
        exact key _
      · have h1 : ((j.toNat : Nat) : Int).natAbs = j.toNat := rfl
        show ((j.toNat : Nat) : Int).natAbs.log2 < 1920
        rw [h1]
        have := Nat.log2_le_self j.toNat
        omega
    have lp : ("in" : Str).length = 2 := by decide +kernel
    refine ⟨_, rfl, _, rfl, ?_⟩
    cases pat with
    | true =>
      refine itT rfl ⟨_, rfl, l, 2, rfl, by decide, hN', fun H5 i5 hB5 hN5 _ _ => ⟨rfl, _, rfl, it2 (fun _ => ?_) fun _ => ?_⟩⟩
      · have hli5 := hB5 _ _ hli' nli
        exact ⟨_, rfl, .inl ⟨rfl, _, SqL.of hli5⟩, li, _, _, rfl, rfl, hli5, hsz, hfin H5 _ _ (hB'.trans hB5) hN5 (hB5 _ _ hlo' nlo) (.inr ⟨rfl, rfl⟩) rfl⟩
      · have hli5 := hB5 _ _ hli' nli
        refine ⟨_, rfl, .inl ⟨rfl, _, SqL.of hli5⟩, _, rfl, l, 3, rfl, by decide, hN5, fun H6 i6 hB6 hN6 m0 m1 => ?_⟩
        have hli6 := hB6 _ _ hli5 nli
        have hlo6 := hB6 _ _ (hB5 _ _ hlo' nlo) nlo
        have bX6 := (hB'.trans hB5).trans hB6
        obtain ⟨jj, rfl, hj1, hj2⟩ := other H6 bX6 hN6 hlo6 hli6 i6 H6 m0 m1 bX6 hN6 hlo6 hli6
        refine ⟨_, rfl, hj2, _, _, rfl, rfl, sz (by show ("in" : Str).length + (numT jj).length ≤ 100000; omega), li, _, _, rfl, rfl, hli6, hsz, hfin H6 _ _ bX6 hN6 hlo6 (.inl ⟨jj, rfl⟩) rfl⟩
    | false =>
      refine itF rfl ?_
      refine ⟨_, rfl, .inl ⟨rfl, _, SqL.of hli'⟩, _, rfl, l, 3, rfl, by decide, hN', fun H6 i6 hB6 hN6 m0 m1 => ?_⟩
      have hli6 := hB6 _ _ hli' nli
      have hlo6 := hB6 _ _ hlo' nlo
      have bX6 := hB'.trans hB6
      obtain ⟨jj, rfl, hj1, hj2⟩ := other H6 bX6 hN6 hlo6 hli6 i6 H6 m0 m1 bX6 hN6 hlo6 hli6
      refine ⟨_, rfl, hj2, _, _, rfl, rfl, sz (by show ("in" : Str).length + (numT jj).length ≤ 100000; omega), li, _, _, rfl, rfl, hli6, hsz, hfin H6 _ _ bX6 hN6 hlo6 (.inl ⟨jj, rfl⟩) rfl⟩
  rintro σ H5 ⟨v5, is, rfl, hB5, hN5, hlo5, hli5, hil, hin⟩
  have his3 : is.length ≤ 3 := by omega
  have hinw : ∀ x ∈ is, wdB x = true ∧ x.length ≤ 5 := fun x hx => by
    rcases hin x hx with ⟨j, rfl⟩ | ⟨_, rfl⟩
    · exact ⟨(wdF j).1, (wdF j).2.2.2.2⟩
    · exact ⟨wdS.1, wdS.2.2.2.2.2⟩
  have houtw : ∀ x ∈ (List.range no).map (outS pat kk), wdB x = true ∧ x.length ≤ 8 := fun x hx => by
    obtain ⟨j, hj, rfl⟩ := List.mem_map.mp hx
    have hj3 : j < 3 := by have := List.mem_range.mp hj; omega
    have := outF pat ⟨kk, hk10⟩ ⟨j, hj3⟩
    exact ⟨this.2.2.2.2.1, this.2.2.2.2.2.2.1⟩
  have houl : ((List.range no).map (outS pat kk)).length = no := by simp
  generalize hos : (List.range no).map (outS pat kk) = os at hlo5 houtw houl
  refine ⟨_, rfl, l, 3, rfl, by decide, hN5, fun H6 i6 hB6 hN6 _ _ => ⟨rfl, ?_⟩⟩
  generalize decide (V.int i6 = V.int 2) = sl
  have hlo6 := hB6 _ _ hlo5 nlo
  have hli6 := hB6 _ _ hli5 nli
  refine ⟨_, rfl, by show 1 ≤ sizeLine; decide, fun nl hnl => ?_⟩
  have s7 := same_new hnl (.lst [.str "stem"])
  refine ⟨_, rfl, lo, _, rfl, .inl (SqL.of (s7 _ _ hlo6)), by show 1 ≤ sizeLine; decide, fun f hf => ?_⟩
  have s8 := same_new hf (.lst [.int 9])
  have hN8 := hN6.same (s7.trans s8)
  have nnf : nl ≠ f := ne_of_none upd_same hf
  have nnl : nl ≠ l := (hN6.ne hnl).symm
  have nfl : f ≠ l := ((hN6.same s7).ne hf).symm
  have f6 : H6 f = none := s7.free hf
  refine ⟨3, l, nl, f, ["stem"], no, 9, rfl, ?_, ⟨hN8, s8 _ _ upd_same, ⟨9, rfl, upd_same⟩, nnl, nnf, nfl.symm, by omega, by omega, by simp, by simp, by decide +kernel⟩, fun H9 q9 v9 lp9 ds zs bl c lf' hB9 hN9 hf9 hq9 hd9 hbk hlp9 hL9 hlp90 hz9 hlf9 => ?_⟩
  · rw [List.length_map, houl]
    rfl
  have hbX : But l H H9 := fun c o h hn => hB9 _ _ (s8 _ _ (s7 _ _ (hB6 _ _ (hB5 _ _ h hn) hn))) hn (ne_of_none (hB6 _ _ (hB5 _ _ h hn) hn) f6)
  have nfo : lo ≠ f := ne_of_none hlo6 f6
  have nfi : li ≠ f := ne_of_none hli6 f6
  have hlo9 := hB9 _ _ (s8 _ _ (s7 _ _ hlo6)) nlo nfo
  have hli9 := hB9 _ _ (s8 _ _ (s7 _ _ hli6)) nli nfi
  -- the first line
  refine ⟨by show 2 ≤ sizeLine; decide, fun p1 hp1 => ?_⟩
  have t1 := same_new hp1 (.lst [.str "rule", .str "sealed"])
  have hat : atI [V.str "rule", V.str "sealed"] (if sl = true then 1 else 0) = some (.str (kwR sl)) := by cases sl <;> rfl
  have ho8 : ∀ x ∈ os, x.length ≤ 8 := fun x hx => (houtw x hx).2
  have hi5 : ∀ x ∈ is, x.length ≤ 5 := fun x hx => (hinw x hx).2
  have g1 := sum_le ho8
  have g2 := sum_le hi5
  have j1' := join_len ho8 (k := 3) (by omega)
  have j2' := join_len hi5 (k := 3) his3
  have lk : (kwR sl).length ≤ 6 := by cases sl <;> decide +kernel
  have lp : (" " : Str).length = 1 ∧ (" : " : Str).length = 3 ∧ ("\n" : Str).length = 1 ∧ ("\nend" : Str).length = 4 ∧ ("end" : Str).length = 3 := by decide +kernel
  refine ⟨_, rfl, .inr ⟨sl, rfl, p1, _, _, _, rfl, rfl, SqL.of upd_same, hat, _, _, rfl, rfl, sz (by omega), ⟨_, rfl⟩, _, rfl, " ", lo, os, rfl, rfl, .inl (SqL.of (t1 _ _ hlo9)), (by rw [lp.1]; omega), _, _, rfl, rfl, sz (by simp only [len_app]; omega), _, _, rfl, rfl, sz (by simp only [len_app]; omega), ⟨_, rfl⟩, _, rfl, " ", li, is, rfl, rfl, .inl (SqL.of (t1 _ _ hli9)), (by rw [lp.1]; omega), _, _, rfl, rfl, sz (by simp only [len_app]; omega), ?_⟩⟩
  obtain ⟨hLw, hCw⟩ := ws_line (s := sl) (fun x hx => (houtw x hx).1) fun x hx => (hinw x hx).1
  have hWl : (kwR sl ++ (" " : Str) ++ Txt.join " " os ++ (" : " : Str) ++ Txt.join " " is).length ≤ 80 := by
    simp only [len_app]
    omega
  generalize kwR sl ++ (" " : Str) ++ Txt.join " " os ++ (" : " : Str) ++ Txt.join " " is = W at hLw hCw hWl ⊢
  -- the text
  refine ⟨⟨_, rfl⟩, _, rfl, by show 1 ≤ sizeLine; decide, fun p2 hp2 => ?_⟩
  have t2 := same_new hp2 (.lst [.str W])
  have t12 := t1.trans t2
  refine ⟨_, rfl, q9, _, _, _, rfl, rfl, .inl (.inl (t12 _ _ hq9)), rfl, p2, lp9, _, _, rfl, rfl, upd_same, t12 _ _ hlp9, sz (by simp; omega), fun p3 hp3 => ?_⟩
  have t3 := same_new hp3 (.lst ([.str W] ++ zs.map V.str))
  refine ⟨by show 1 ≤ sizeLine; decide, fun p4 hp4 => ?_⟩
  have t4 := same_new hp4 (.lst [.str "end"])
  refine ⟨p3, p4, _, _, rfl, rfl, t4 _ _ upd_same, upd_same, sz (by simp; omega), fun p5 hp5 => ?_⟩
  have t5 := same_new hp5 (.lst ([.str W] ++ zs.map V.str ++ [.str "end"]))
  have t15 := t12.trans (t3.trans (t4.trans t5))
  have ev : [V.str W] ++ zs.map V.str ++ [V.str "end"] = ((W :: zs) ++ [("end" : Str)]).map V.str := by simp
  have hend : LLs [("end" : Str)] [[tW "end"]] := LLs.one (ln_word (by decide +kernel)) (by decide +kernel) (by decide)
  have hW0 : LLs [W] [tW (kwR sl) :: (os.map tW ++ tW ":" :: is.map tW)] := LLs.one hLw hCw (by omega)
  have hLall : LLs ((W :: zs) ++ [("end" : Str)]) ((tW (kwR sl) :: (os.map tW ++ tW ":" :: is.map tW)) :: (bl ++ [[tW "end"]])) := (LLs.app hW0 hL9).app hend
  have gs := hLall.sum
  have gl : ((W :: zs) ++ [("end" : Str)]).length = zs.length + 2 := by simp
  refine ⟨"\n", p5, (W :: zs) ++ [("end" : Str)], rfl, rfl, .inl (SqL.of (by rw [upd_same, ev])), (by rw [lp.2.2.1]; omega), ?_⟩
  have e10 : tl ("\n" : Str) = [10] := by decide +kernel
  have htx : tl (Txt.join "\n" ((W :: zs) ++ [("end" : Str)])) ++ [10] = lnT ((W :: zs) ++ [("end" : Str)]) := by
    rw [join_eq, tl_join, e10]
    exact lnT_join (by simp)
  have htl : (Txt.join "\n" ((W :: zs) ++ [("end" : Str)])).length ≤ 100000 := by
    rw [len_tl, join_eq, tl_join, e10]
    refine Nat.le_trans (joinL_len (n := 700) fun x hx => ?_) ?_
    · obtain ⟨y, hy, rfl⟩ := List.mem_map.mp hx
      rw [← len_tl]
      have : ∀ {zs : List Str} {ls : List Toks}, LLs zs ls → ∀ y ∈ zs, y.length ≤ 700 := by
        intro zs
        induction zs with
        | nil => intro ls _ y hy; cases hy
        | cons z zs ih =>
          intro ls h y hy
          cases ls with
          | nil => exact h.elim
          | cons t ts =>
            rcases List.mem_cons.mp hy with rfl | hy
            · exact h.1.2.2
            · exact ih h.2 y hy
      exact this hLall y hy
    · rw [List.length_map, gl]
      show (zs.length + 2) * 701 ≤ 100000
      omega
  generalize Txt.join "\n" ((W :: zs) ++ [("end" : Str)]) = X at htx htl ⊢
  have hq9' := t15 _ _ hq9
  have hd9' := dp_same t15 _ _ hd9
  have hlo9' := t15 _ _ hlo9
  have hli9' := t15 _ _ hli9
  have hbX' : But l H _ := hbX.trans (But.same t15)
  have hN9' := hN9.same t15
  generalize upd (upd (upd (upd (upd H9 p1 (.lst [.str "rule", .str "sealed"])) p2 (.lst [.str W])) p3 (.lst ([.str W] ++ zs.map V.str))) p4 (.lst [.str "end"])) p5 (.lst ([.str W] ++ zs.map V.str ++ [.str "end"])) = HA at hq9' hd9' hlo9' hli9' hbX' hN9' ⊢
  refine ⟨fun σ' H' => ∃ (q7 : Addr) (txt : Str) (zx : List Str) (vb : V) (lp : Addr) (dx : List PyData) (bx : List Toks) (cx : Nat), σ' = [some (.ref l), some (.int (kk : Nat)), some (.bl pat), some (.ref lo), some (.ref li), v5, some (.bl sl), some (.ref q7), some (.str W), some (.str txt)] ∧ Same HA H' ∧ txt.length ≤ 330 ∧ tl txt ++ [10] = lnT zx ∧ H' q7 = some (.tup [vb, .ref lp]) ∧ Dp K H' vb (.tuple dx) ∧ BkD no 3 ["stem"] dx bx cx ∧ cx ≤ 9 ∧ LLs zx ((tW (kwR sl) :: (os.map tW ++ tW ":" :: is.map tW)) :: (bx ++ [[tW "end"]])), ?_, ?_⟩
  · refine ⟨_, rfl, X, rfl, sz htl, _, _, rfl, rfl, _, rfl, it2 (fun _ => ?_) fun hle => ?_⟩
    · refine ⟨_, rfl, _, _, rfl, rfl, sz (by omega), ?_⟩
      refine ⟨by show 0 ≤ sizeLine; decide, fun p6 hp6 => ?_⟩
      have u1 := same_new hp6 (.tup [])
      refine ⟨by show 0 ≤ sizeLine; decide, fun p7 hp7 => ?_⟩
      have u2 := same_new hp7 (.lst [])
      refine ⟨by show 2 ≤ sizeLine; decide, fun p8 hp8 => ?_⟩
      have u3 := same_new hp8 (.tup [.ref p6, .ref p7])
      have eE : tl ("\nend" : Str) = 10 :: tl ("end" : Str) := by decide +kernel
      refine ⟨p8, W ++ ("\nend" : Str), [W, "end"], .ref p6, p7, [], [], 0, rfl, u1.trans (u2.trans u3), ?_, ?_, upd_same, dp_same (u2.trans u3) _ _ (dp_tup upd_same .nil), .nil, by decide, LLs.app hW0 hend⟩
      · rw [len_app]
        omega
      · rw [tl_append, eE]
        show tl W ++ 10 :: tl ("end" : Str) ++ [10] = tl W ++ 10 :: (tl ("end" : Str) ++ 10 :: [])
        simp
    · have := of_decide_eq_false hle
      exact ⟨q9, X, (W :: zs) ++ [("end" : Str)], v9, lp9, ds, bl, c, rfl, Same.refl _, by omega, htx, hq9', hd9', hbk, by omega, hLall⟩
  · rintro σ' HB ⟨q7, txt, zx, vb, lp7, dx, bx, cx, rfl, sB, hxl, hxx, hq7, hdx, hbx, hcx, hLx⟩
    refine ⟨_, rfl, lo, _, rfl, .inl ⟨SqL.of (sB _ _ hlo9'), fun to hto => ?_⟩⟩
    have u1 := same_new hto (.tup (os.map V.str))
    refine ⟨_, rfl, li, _, rfl, .inl ⟨SqL.of (u1 _ _ (sB _ _ hli9')), fun ti hti => ?_⟩⟩
    have u2 := same_new hti (.tup (is.map V.str))
    have u12 := u1.trans u2
    refine ⟨_, rfl, _, rfl, q7, _, _, _, rfl, rfl, .inl (.inl (u12 _ _ hq7)), rfl, by show 4 ≤ sizeLine; decide, fun p6 hp6 => ?_⟩
    have u3 := same_new hp6 (.tup [.ref to, .ref ti, .bl sl, vb])
    refine ⟨_, rfl, by show 2 ≤ sizeLine; decide, fun p7 hp7 => ?_⟩
    have u4 := same_new hp7 (.tup [.ref p6, .str txt])
    have u34 := u3.trans u4
    have uA := sB.trans (u12.trans u34)
    refine k _ p7 (.ref p6) ⟨os, is, sl, dx⟩ txt zx (hbX'.trans (But.same uA)) (hN9'.same uA) upd_same ⟨p6, to, ti, vb, rfl, u4 _ _ upd_same, u34 _ _ (u2 _ _ upd_same), u34 _ _ upd_same, dp_same (u12.trans u34) _ _ hdx, fun d hd => (blk_good (fun h => stD_good h) hbx d hd).mono (by omega)⟩ ⟨pat, no, bx, cx, hno3.1, hno3.2, hos.symm, hin, his3, hbx, hcx, hLx⟩ hxx hxl
end
end Ky

/-! The law's look at a rule. -/
namespace Ky
open PySem PySem.Spec PyProof.Rows L2 TL
section
variable {P : Program} {w : World} {K : PySem.W.Frag} {mg : Str → Option Value} {base : Heap} {φ : Str × Option Str → FuncData}
theorem ty_tup {H : Hp} {a : Addr} {xs : List V} (h : SqT K H a xs) : TyX K H (.ref a) (.type "tuple") := by
  rcases h with (h | ⟨o, h⟩) | h
  · exact .base (.tup h)
  · exact .fTuple h
  · obtain ⟨its, _, o, e, c, _⟩ := h
    exact .kTuple e c
theorem DueAt.ki {H H' : Hp} {v : V} {rd : RuD} (h : DueAt K H v rd) (e : KI H H') : DueAt K H' v rd := by
  obtain ⟨q, to, ti, vb, rfl, h1, h2, h3, h4, h5⟩ := h
  exact ⟨q, to, ti, vb, rfl, e _ _ h1 trivial, e _ _ h2 trivial, e _ _ h3 trivial, e.fk.dp (Gd.tuple h5).tup h4, h5⟩
def spIsR (K : PySem.W.Frag) : Sp := fun vs H Q _ => ∃ (a : Addr) (v : V) (rd : RuD) (x : Str), vs = [.ref a, v] ∧ RuAt K H (.ref a) rd ∧ DueAt K H v rd ∧ RuAsc rd ∧ rd.outs[0]? = some x ∧ okW x ∧ (!(Builtin.Str.occurrences x "*" 0 x.length 1).isEmpty) = pattB x ∧ ∀ H', Same H H' → Q (.bl true) H'
theorem ok_law_is_rule (T : Tp w K mg φ) : FnOk P w K mg base CX0 5 (He.ga K "_law_is_rule") (φ ("_law_is_rule", none)) P_law_is_rule (spIsR K) := by
  have G_Rule_is_pattern := ok_Rule_is_pattern (P := P) (base := base) T
  have G_Rule___init__ := ok_Rule___init__ (P := P) (base := base) T
  have G_Rule___eq__ := ok_Rule___eq__ (P := P) (base := base) T
  refine okF T.F_law_is_rule sc_law_is_rule (fun vs H Q E h => ?_) (fun cdv A outer s H vs Q E hr h => ?_)
  · obtain ⟨a, v, rd, x, rfl, _⟩ := h
    rfl
  obtain ⟨a, v, rd, x, rfl, hR, hD, has, hx0, hok, hst, k⟩ := h
  have nd := sc_law_is_rule.nd
  have hu := hr.units
  refine ⟨_, (pss_cons (ps_if (PW.pt (pw_or (pt_not (pt_val (pe_callB (C8.call_isC T.iRule) (by rfl) T.z_isinstance (by decide +kernel) (pa_cons (pv 0) (pa_cons (pe_gref T.g_Rule) pa_nil))))) (pw_or (pt_not (pt_val (pe_callB call_isi (by rfl) T.z_isinstance (by decide +kernel) (pa_cons (pe_fld (pv 0) rfl) (pa_cons (pe_bltn (v := .ty "tuple") rfl T.z_tuple (by decide +kernel) rfl) pa_nil))))) (pw_or1 (pt_not (pt_val (pe_callB call_isi (by rfl) T.z_isinstance (by decide +kernel) (pa_cons (pe_fld (pv 0) rfl) (pa_cons (pe_bltn (v := .ty "tuple") rfl T.z_tuple (by decide +kernel) rfl) pa_nil))))))))) 
      (pss_one (ps_ret pe_bl)) pss_nil)
    (pss_cons (ps_if (PW.pt (pw_or (pt_not (pt_val (pe_callB call_isi (by rfl) T.z_isinstance (by decide +kernel) (pa_cons (pe_fld (pv 0) rfl) (pa_cons (pe_bltn (v := .ty "bool") rfl T.z_bool (by decide +kernel) rfl) pa_nil))))) (pw_or1 (pt_not (pt_val (pe_callB call_isi (by rfl) T.z_isinstance (by decide +kernel) (pa_cons (pe_fld (pv 0) rfl) (pa_cons (pe_bltn (v := .ty "tuple") rfl T.z_tuple (by decide +kernel) rfl) pa_nil)))))))) 
      (pss_one (ps_ret pe_bl)) pss_nil)
    (pss_cons (ps_if (pt_cmpR (op_neD hu) (pe_tup (pa_cons (pe_fld (pv 0) rfl) (pa_cons (pe_fld (pv 0) rfl) (pa_cons (pe_fld (pv 0) rfl) (pa_cons (pe_fld (pv 0) rfl) pa_nil))))) (pv 1) (nomark _)) 
      (pss_one (ps_ret pe_bl)) pss_nil)
    (pss_one (ps_ret (pe_and (pe_cmpR op_eq (pe_meth0 (pv 0) T.c_Rule T.m_Rule_is_pattern G_Rule_is_pattern (hr.mono (by omega)) T.b_Rule_is_pattern .nil pass0) (pe_cmpR op_in_str pe_str (pe_ix ix_tup (pe_ix ix_tup (pv 1) pe_int (fun _ _ => rfl)) pe_int (fun _ _ => rfl)) (by rfl)) (nomark _)) (pe_one (pe_cmpR (op_eqG (rcG_ins (E := E0) G_Rule___eq__ T.m_Rule___eq__.at_ T.m_Rule___eq__.fn T.b_Rule___eq__ pass0) (hr.mono (by decide))) (pv 0) (pe_make T.mk_Rule G_Rule___init__ (hr.mono (by omega)) rfl T.g_Rule T.b_Rule___init__ .nil pass0 (pa_cons (pe_ix ix_tup (pv 1) pe_int (fun _ _ => rfl)) (pa_cons (pe_ix ix_tup (pv 1) pe_int (fun _ _ => rfl)) (pa_cons (pe_ix ix_tup (pv 1) pe_int (fun _ _ => rfl)) (pa_cons (pe_ix ix_tup (pv 1) pe_int (fun _ _ => rfl)) pa_nil))))) (nomark _))))))))), ?_⟩
  obtain ⟨p1, x1, to1, ti1, vb1, e1, h1, h2, h3, h4, h5⟩ := id hR
  cases e1
  obtain ⟨q, to, ti, vb, rfl, g1, g2, g3, g4, g5⟩ := id hD
  have tt : PySem.W.kitOne K (.type "tuple") (.type "tuple") = some true := kit_ty (by decide +kernel)
  have tb : PySem.W.kitOne K (.type "bool") (.type "bool") = some true := kit_ty (by decide +kernel)
  obtain ⟨ab, xsb, rfl, hsb, _⟩ := dp_inv h4
  refine ⟨_, rfl, a, x1, _, rfl, h1, _, rfl, itF rfl ?_⟩
  refine ⟨_, rfl, a, _, x1, _, _, rfl, h1, T.c_Rule, T.n_Rule_outputs, rfl, _, _, _, _, true, rfl, .ty "tuple", ty_tup (.inl (.inl h2)), tt, _, rfl, itF rfl ?_⟩
  refine ⟨_, rfl, a, _, x1, _, _, rfl, h1, T.c_Rule, T.n_Rule_inputs, rfl, _, _, _, _, true, rfl, .ty "tuple", ty_tup (.inl (.inl h3)), tt, _, rfl, itF rfl ?_⟩
  refine ⟨_, rfl, a, _, x1, _, _, rfl, h1, T.c_Rule, T.n_Rule_sealed, rfl, _, _, _, _, true, rfl, .ty "bool", .base (.bl _), tb, _, rfl, itF rfl ?_⟩
  refine ⟨_, rfl, a, _, x1, _, _, rfl, h1, T.c_Rule, T.n_Rule_body, rfl, _, _, _, _, true, rfl, .ty "tuple", ty_tup hsb, tt, _, rfl, itF rfl ?_⟩
  -- the four together
  have gb : Gd 31 (.tuple rd.body) := Gd.tuple h5
  have gall : Gd 32 (.tuple [strsD rd.outs, strsD rd.ins, .bool rd.sealed, .tuple rd.body]) := Gd.tuple (.cons ((gd_strs has.1).mono (by decide)) (.cons ((gd_strs has.2).mono (by decide)) (.cons ⟨rfl, rfl, Nat.zero_le _⟩ (.cons gb .nil))))
  refine ⟨_, rfl, a, _, x1, _, _, rfl, h1, T.c_Rule, T.n_Rule_outputs, rfl, _, rfl, a, _, x1, _, _, rfl, h1, T.c_Rule, T.n_Rule_inputs, rfl, _, rfl, a, _, x1, _, _, rfl, h1, T.c_Rule, T.n_Rule_sealed, rfl, _, rfl, a, _, x1, _, _, rfl, h1, T.c_Rule, T.n_Rule_body, rfl, by show 4 ≤ sizeLine; decide, fun p0 hp0 => ?_⟩
  have s1 := same_new hp0 (.tup [.ref to1, .ref ti1, .bl rd.sealed, .ref ab])
  refine ⟨_, rfl, _, _, dp_tup upd_same (.cons (dp_same s1 _ _ (dp_strs h2)) (.cons (dp_same s1 _ _ (dp_strs h3)) (.cons (.bl _) (.cons (dp_same s1 _ _ h4) .nil)))), dp_tup (s1 _ _ g1) (.cons (dp_same s1 _ _ (dp_strs g2)) (.cons (dp_same s1 _ _ (dp_strs g3)) (.cons (.bl _) (.cons (dp_same s1 _ _ g4) .nil)))), gall.shaped (by decide), gall.shaped (by decide), _, rfl, itF ?_ ?_⟩
  · exact nb (eqv_self gall)
  have hR1 : RuAt K (upd H p0 (.tup [.ref to1, .ref ti1, .bl rd.sealed, .ref ab])) (.ref a) rd := ruAt_ki (KI.same s1) hR
  have hD1 := hD.ki (KI.same s1)
  generalize upd H p0 (.tup [.ref to1, .ref ti1, .bl rd.sealed, .ref ab]) = H1 at s1 hR1 hD1
  refine ⟨_, rfl, a, x1, _, rfl, s1 _ _ h1, rfl, a, rd, x, rfl, hR1, hx0, hok, fun H2 s2 => ?_⟩
  have s12 := s1.trans s2
  have h0v : (rd.outs.map V.str)[0]? = some (.str x) := by rw [List.getElem?_map, hx0]; rfl
  refine ⟨_, rfl, q, _, _, _, rfl, rfl, .inl (.inl (s12 _ _ g1)), atI_nat (j := 0) rfl, to, _, _, _, rfl, rfl, .inl (.inl (s12 _ _ g2)), atI_nat (j := 0) h0v, _, _, rfl, rfl, ?_⟩
  rw [hst]
  refine ⟨rfl, _, rfl, itT (decide_eq_true rfl) ?_⟩
  refine ⟨_, rfl, _, rfl, q, _, _, _, rfl, rfl, .inl (.inl (s12 _ _ g1)), rfl, _, rfl, q, _, _, _, rfl, rfl, .inl (.inl (s12 _ _ g1)), rfl, _, rfl, q, _, _, _, rfl, rfl, .inl (.inl (s12 _ _ g1)), rfl, _, rfl, q, _, _, _, rfl, rfl, .inl (.inl (s12 _ _ g1)), rfl, ?_⟩
  intro u ux nu nux nedu
  refine ⟨u, ux, to, ti, rd.sealed, vb, rfl, upd_same, fun H3 hu3 hB3 => ⟨rfl, ?_⟩⟩
  have s3 : Same H2 H3 := made_keep nu nux hB3
  have s13 := s12.trans s3
  refine ⟨⟨a, u, x1, ux, _, _, rfl, rfl, s13 _ _ h1, hu3, rd, has, ruAt_ki (KI.same s13) hR, u, ux, to, ti, vb, rfl, hu3, s13 _ _ g2, s13 _ _ g3, dp_same s13 _ _ g4, g5⟩, fun H4 e4 => ?_⟩
  exact k H4 fun c o h => e4 _ _ (s13 _ _ h)
end
end Ky

/-! Items of recipe files: what is written, what is read. -/
namespace Ky
open PySem PySem.Spec PyProof.Rows L2 TL
abbrev setN (k : Nat) : Str := ("s" : Str) ++ numT k
abbrev setV (d : Nat) : Str := ("v\n" : Str) ++ numT d
abbrev setE1 (d : Nat) : Str := Txt.replace (setV d) "\n" "\\n"
abbrev setL (k d : Nat) : Str := ("set s" : Str) ++ numT k ++ ("  \"" : Str) ++ setE1 d ++ ("\"" : Str)
theorem setF : ∀ (k : Fin 10), idn (tl (setN k)) = true ∧ setN k ≠ ("" : Str) ∧ wdB (setN k) = true ∧ (numT k).length ≤ 1 ∧ (setN k).length ≤ 3 ∧ (tl (setN k))[1]? = some (48 + k.val) := by decide +kernel
theorem setG : ∀ (d : Fin 9), tl (setE1 d) = escL (tl (setV d)) ∧ (∀ c ∈ tl (setV d), c ≠ 92) ∧ LnC (setE1 d) ∧ (setE1 d).length ≤ 5 ∧ (setV d).length ≤ 5 := by decide +kernel
structure It where
  k : Nat
  set : Option Nat
  rd : RuD
  zs : List Str
  bl : List Toks
structure ItOk (e : It) : Prop where
  k10 : e.k < 10
  s9 : ∀ d, e.set = some d → d < 9
  ru : ∃ (pat : Bool) (no c : Nat), 1 ≤ no ∧ no ≤ 3 ∧ e.rd.outs = (List.range no).map (outS pat e.k) ∧ (∀ x ∈ e.rd.ins, inL pat x) ∧ e.rd.ins.length ≤ 3 ∧ BkD no 3 ["stem"] e.rd.body e.bl c ∧ c ≤ 9 ∧ LLs e.zs (rHd e.rd :: (e.bl ++ [[tW "end"]]))
def setT (e : It) : List Toks := match e.set with
  | none => []
  | some d => [[tW "set", tW (setN e.k), tQ (tl (setV d))], []]
def setZ (e : It) : List Str := match e.set with
  | none => []
  | some d => [setL e.k d, " # note"]
def setP (e : It) : Option (Str × Str) := e.set.map fun d => (setN e.k, setV d)
def itK (e : It) : List Toks := setT e ++ (rHd e.rd :: (e.bl ++ [[tW "end"]]))
def itZ (e : It) : List Str := setZ e ++ e.zs
def stOf (its : List It) (fs : List Str) : BkSt := ⟨its.filterMap setP, its.map (·.rd), fs⟩
theorem setL_lx (k : Fin 10) (d : Fin 9) : Lx (tl (setL k d)) [tW "set", tW (setN k), tQ (tl (setV d))] ∧ skp (tl (setL k d)) = false ∧ LnC (setL k d) := by
  obtain ⟨_, _, h1, _⟩ := setF k
  obtain ⟨g1, g2, g3, _⟩ := setG d
  have e0 : tl ("set s" : Str) = tl ("set" : Str) ++ 32 :: tl ("s" : Str) ∧ tl ("  \"" : Str) = [32, 32, 34] ∧ tl ("\"" : Str) = [34] := by decide +kernel
  have w1 : Wd "set" := wd_of (by decide +kernel)
  have w2 := wd_of h1
  have e : tl (setL k d) = tl ("set" : Str) ++ (32 :: (tl (setN k) ++ (32 :: 32 :: (34 :: (escL (tl (setV d)) ++ 34 :: []))))) := by
    show tl (("set s" : Str) ++ numT k ++ ("  \"" : Str) ++ setE1 d ++ ("\"" : Str)) = _
    have e5 : tl (setN k) = tl ("s" : Str) ++ tl (numT k) := tl_append _ _
    rw [tl_append, tl_append, tl_append, tl_append, e0.1, e0.2.1, e0.2.2, g1, e5]
    generalize escL (tl (setV d)) = z
    simp
  refine ⟨?_, by rw [e]; exact w1.nsk _, ?_⟩
  · rw [e]
    exact Lx.wd w1.n0 w1.w (Stop.cons (by decide +kernel)) (.sp (Lx.wd w2.n0 w2.w (Stop.cons (by decide +kernel)) (.sp (.sp (.str (escL_slx g2) .nil)))))
  · have c1 : LnC ("set s" : Str) ∧ LnC ("  \"" : Str) ∧ LnC ("\"" : Str) := by decide +kernel
    have c2 : ∀ k : Fin 10, LnC (numT k) := by decide +kernel
    exact (((c1.1.app (c2 k)).app c1.2.1).app g3).app c1.2.2
theorem setL_len (k : Fin 10) (d : Fin 9) : (setL k d).length ≤ 20 := by
  have h1 := (setF k).2.2.2.1
  have h2 := (setG d).2.2.2.1
  have lp : ("set s" : Str).length = 5 ∧ ("  \"" : Str).length = 3 ∧ ("\"" : Str).length = 1 := by decide +kernel
  show (("set s" : Str) ++ numT k ++ ("  \"" : Str) ++ setE1 d ++ ("\"" : Str)).length ≤ 20
  simp only [len_app]
  omega
theorem it_lls {e : It} (h : ItOk e) : LLs (itZ e) (itK e) := by
  obtain ⟨pat, no, c, _, _, _, _, _, _, _, hL⟩ := h.ru
  unfold itZ itK setZ setT
  cases hs : e.set with
  | none => exact hL
  | some d =>
    have hd := h.s9 d hs
    obtain ⟨h1, h2, h3⟩ := setL_lx ⟨e.k, h.k10⟩ ⟨d, hd⟩
    have h4 : (setL e.k d).length ≤ 20 := setL_len ⟨e.k, h.k10⟩ ⟨d, hd⟩
    exact LLs.app (zs := [setL e.k d, " # note"]) (ts := [[tW "set", tW (setN e.k), tQ (tl (setV d))], []]) ⟨⟨.inr ⟨h2, h1⟩, h3, by omega⟩, ⟨.inl ⟨by decide +kernel, rfl⟩, by decide +kernel, by decide⟩, trivial⟩ hL
theorem its_lls : ∀ {its : List It}, (∀ e ∈ its, ItOk e) → LLs (its.flatMap itZ) (its.flatMap itK)
  | [], _ => trivial
  | e :: its, h => by
    rw [List.flatMap_cons, List.flatMap_cons]
    exact (it_lls (h e List.mem_cons_self)).app (its_lls fun x hx => h x (List.mem_cons_of_mem _ hx))
theorem outs_nd : ∀ (pat : Bool) (k : Fin 10) (no : Fin 4), ((List.range no.val).map (outS pat k)).Nodup := by decide +kernel
theorem out_key {pat pat' : Bool} {k k' j j' : Nat} (hk : k < 10) (hk' : k' < 10) (hj : j < 3) (hj' : j' < 3) (h : outS pat k j = outS pat' k' j') : k = k' := by
  have h1 := (outF pat ⟨k, hk⟩ ⟨j, hj⟩).2.2.2.2.2.2.2.2.1
  have h2 := (outF pat' ⟨k', hk'⟩ ⟨j', hj'⟩).2.2.2.2.2.2.2.2.1
  have h3 : (tl (outS pat k j))[1]? = (tl (outS pat' k' j'))[1]? := by rw [h]
  have h4 := (h1.symm.trans h3).trans h2
  have h5 : 48 + k = 48 + k' := Option.some.inj h4
  omega
theorem set_key {k k' : Nat} (hk : k < 10) (hk' : k' < 10) (h : setN k = setN k') : k = k' := by
  have h1 := (setF ⟨k, hk⟩).2.2.2.2.2
  have h2 := (setF ⟨k', hk'⟩).2.2.2.2.2
  have h3 : (tl (setN k))[1]? = (tl (setN k'))[1]? := by rw [h]
  have h4 := (h1.symm.trans h3).trans h2
  have h5 : 48 + k = 48 + k' := Option.some.inj h4
  omega
theorem set_fresh {done : List It} {k : Nat} (hk : k < 10) (hd : ∀ x ∈ done, ItOk x) (hn : ∀ x ∈ done, x.k ≠ k) : setN k ∉ (done.filterMap setP).map (·.1) := fun m => by
  obtain ⟨p, hp, e⟩ := List.mem_map.mp m
  obtain ⟨x, hx, hs⟩ := List.mem_filterMap.mp hp
  unfold setP at hs
  cases hset : x.set with
  | none => rw [hset] at hs; cases hs
  | some d =>
    rw [hset] at hs
    have e2 : (setN x.k, setV d) = p := Option.some.inj hs
    rw [← e2] at e
    exact hn x hx (set_key (hd x hx).k10 hk e)
theorem run_item {F : FilR} {es : List (Str × Ent)} {done : List It} {e : It} {fs : List Str} {rest : List Toks} {st' : BkSt} (h : ItOk e) (hd : ∀ x ∈ done, ItOk x) (hk : ∀ x ∈ done, x.k ≠ e.k) (hl : done.length < 24) (hf : ∀ q ∈ fs, q ∈ filL)
    (hr : RunL F es (stOf (done ++ [e]) fs) rest st') : RunL F es (stOf done fs) (itK e ++ rest) st' := by
  obtain ⟨pat, no, c, n1, n3, ho, hi, hi3, hB, hc, hL⟩ := h.ru
  have k10 := h.k10
  have hol : e.rd.outs.length = no := by rw [ho]; simp
  have hmem : ∀ x ∈ e.rd.outs, ∃ j, j < 3 ∧ x = outS pat e.k j := fun x hx => by
    rw [ho] at hx
    obtain ⟨j, hj, rfl⟩ := List.mem_map.mp hx
    have := List.mem_range.mp hj
    exact ⟨j, by omega, rfl⟩
  have hO : ∀ ss : List (Str × Str), OutsOk ⟨ss, done.map (·.rd), fs⟩ pat e.rd.outs := fun ss => by
    refine ⟨fun z => ?_, by omega, by rw [ho]; exact outs_nd pat ⟨e.k, k10⟩ ⟨no, by omega⟩, fun x hx => ?_⟩
    · rw [z] at hol
      simp at hol
      omega
    · obtain ⟨j, hj, rfl⟩ := hmem x hx
      obtain ⟨f1, f2, f3, f4, f5, f6, f7, f8, _⟩ := outF pat ⟨e.k, k10⟩ ⟨j, hj⟩
      refine ⟨f1, f2, f3, f4, fun _ rd hrd hm => ?_, fun hm => f8 (hf _ hm)⟩
      obtain ⟨y, hy, rfl⟩ := List.mem_map.mp hrd
      obtain ⟨pat', no', _, _, m3, ho', _⟩ := (hd y hy).ru
      rw [ho'] at hm
      obtain ⟨j', hj', e'⟩ := List.mem_map.mp hm
      have := List.mem_range.mp hj'
      exact hk y hy (out_key (hd y hy).k10 k10 (by omega) hj e')
  have hI : InsOk pat e.rd.ins := ⟨by omega, fun x hx => by
    rcases hi x hx with ⟨j, rfl⟩ | ⟨rfl, rfl⟩
    · exact ⟨(wdF j).2.1, .inl (wdF j).2.2.1⟩
    · exact ⟨wdS.2.1, .inr ⟨wdS.2.2.1, rfl, wdS.2.2.2.1⟩⟩⟩
  have hrule : ∀ ss st2, st2 = (⟨ss, done.map (·.rd) ++ [e.rd], fs⟩ : BkSt) → RunL F es st2 rest st' → RunL F es ⟨ss, done.map (·.rd), fs⟩ ((rHd e.rd :: (e.bl ++ [[tW "end"]])) ++ rest) st' := by
    rintro ss st2 rfl hr2
    have e1 : (rHd e.rd :: (e.bl ++ [[tW "end"]])) ++ rest = (tW (kwR e.rd.sealed) :: (e.rd.outs.map tW ++ tW ":" :: e.rd.ins.map tW)) :: (e.bl ++ [tW "end"] :: rest) := by
      show (tW (kwR e.rd.sealed) :: (e.rd.outs.map tW ++ tW ":" :: e.rd.ins.map tW)) :: ((e.bl ++ [[tW "end"]]) ++ rest) = _
      simp
    rw [e1]
    refine .step (.inr (.inr ⟨e.rd, pat, e.bl, c, rfl, hO ss, hI, by rw [hol]; exact hB, by omega, rfl, ?_, rfl⟩)) hr2
    show (done.map (·.rd)).length < 24
    rw [List.length_map]
    exact hl
  unfold itK setT
  cases hs : e.set with
  | none =>
    refine hrule _ _ ?_ hr
    unfold stOf
    rw [List.filterMap_append, List.map_append]
    have : [e].filterMap setP = [] := by
      unfold setP
      simp [hs]
    rw [this, List.append_nil]
    rfl
  | some d =>
    have hd9 := h.s9 d hs
    have f1 := setF ⟨e.k, k10⟩
    refine .step (t := tW "set") (ts := [tW (setN e.k), tQ (tl (setV d))]) (st1 := ⟨done.filterMap setP ++ [(setN e.k, setV d)], done.map (·.rd), fs⟩) (.inl ⟨⟨setN e.k, tl (setV d), rfl, f1.1, set_fresh k10 hd hk, f1.2.1, ?_, ?_⟩, rfl⟩) (.skip ?_)
    · have := List.length_filterMap_le setP done
      show (done.filterMap setP).length ≤ 100
      omega
    · rw [S_tl]
      rfl
    · refine hrule _ _ ?_ hr
      unfold stOf
      rw [List.filterMap_append, List.map_append]
      have : [e].filterMap setP = [(setN e.k, setV d)] := by
        unfold setP
        simp [hs]
      rw [this]
      rfl
theorem run_items {F : FilR} {es : List (Str × Ent)} {fs : List Str} {rest : List Toks} {st' : BkSt} (hf : ∀ q ∈ fs, q ∈ filL) : ∀ {its done : List It}, (∀ x ∈ done ++ its, ItOk x) → ((done ++ its).map (·.k)).Nodup → (done ++ its).length ≤ 20 →
    RunL F es (stOf (done ++ its) fs) rest st' → RunL F es (stOf done fs) (its.flatMap itK ++ rest) st'
  | [], done, _, _, _, hr => by rwa [List.append_nil] at hr
  | e :: its, done, ho, hn, hl, hr => by
    have e1 : done ++ e :: its = (done ++ [e]) ++ its := by simp
    rw [e1] at ho hn hl hr
    have ih := run_items hf (its := its) (done := done ++ [e]) ho hn hl hr
    rw [List.flatMap_cons, List.append_assoc]
    refine run_item (ho e (by simp)) (fun x hx => ho x (by simp [hx])) (fun x hx z => ?_) (by simp at hl; omega) hf ih
    rw [List.map_append, List.map_append] at hn
    have h1 := (List.nodup_append.mp hn).1
    exact (List.nodup_append.mp h1).2.2 x.k (List.mem_map.mpr ⟨x, hx, rfl⟩) e.k (by simp) z
/-! ### files -/
theorem lnT_eq : ∀ zs : List Str, lnT zs = joinL [10] ((zs ++ [("" : Str)]).map tl)
  | [] => by
    show [] = tl ("" : Str)
    decide +kernel
  | [z] => by
    have e : tl ("" : Str) = [] := by decide +kernel
    show tl z ++ [10] = tl z ++ ([10] ++ tl ("" : Str))
    rw [e] <;> rfl
  | z :: y :: zs => by
    have ih := lnT_eq (y :: zs)
    show tl z ++ 10 :: lnT (y :: zs) = tl z ++ ([10] ++ joinL [10] (((y :: zs) ++ [("" : Str)]).map tl))
    rw [ih] <;> rfl
theorem lnc_no {z : Str} (h : LnC z) : 10 ∉ tl z := fun m => by
  have := List.all_eq_true.mp h 10 m
  exact absurd this (by decide +kernel)
theorem LLs.no : ∀ {zs : List Str} {ls : List Toks}, LLs zs ls → ∀ z ∈ zs, LnC z
  | [], _, _, z, h => nomatch h
  | x :: zs, t :: ts, ⟨⟨_, h1, _⟩, h⟩, z, hz => by
    rcases List.mem_cons.mp hz with rfl | hz
    · exact h1
    · exact h.no z hz
theorem split_lnT {t : Str} {zs : List Str} (h : tl t = lnT zs) (hz : ∀ z ∈ zs, LnC z) : Txt.split t "\n" = zs ++ [("" : Str)] := by
  have e10 : tl ("\n" : Str) = [10] := by decide +kernel
  have et : t = Txt.join "\n" (zs ++ [("" : Str)]) := ext_tl (by rw [h, join_eq, tl_join, e10, lnT_eq])
  rw [et]
  refine split_join (s := 10) (S := []) e10 (by decide +kernel) (by simp) fun p hp => ?_
  rcases List.mem_append.mp hp with hp | hp
  · exact lnc_no (hz p hp)
  · rw [List.mem_singleton.mp hp]
    decide +kernel
theorem lns_of : ∀ {zs : List Str} {ls : List Toks}, LLs zs ls → Lns (zs ++ [("" : Str)]) (ls ++ [[]])
  | [], [], _ => by
    refine ⟨rfl, fun i z ts h1 h2 => ?_⟩
    match i, h1, h2 with
    | 0, h1, h2 =>
      have e1 : ("" : Str) = z := by simpa using h1
      have e2 : ([] : Toks) = ts := by simpa using h2
      subst e1 e2
      exact ⟨.inl ⟨by decide +kernel, rfl⟩, by decide⟩
    | i + 1, h1, _ => simp at h1
  | x :: zs, t :: ls, ⟨⟨h1, _, h3⟩, h⟩ => by
    obtain ⟨a, b⟩ := lns_of h
    refine ⟨by rw [List.cons_append, List.cons_append, List.length_cons, List.length_cons, a], fun i z ts g1 g2 => ?_⟩
    match i, g1, g2 with
    | 0, g1, g2 =>
      have e1 : x = z := by simpa using g1
      have e2 : t = ts := by simpa using g2
      subst e1 e2
      exact ⟨h1, by omega⟩
    | i + 1, g1, g2 => exact b i z ts (by simpa using g1) (by simpa using g2)
def fN (n : Nat) : Str := filL.getD n ""
abbrev useZ (q : Str) : Str := ("use " : Str) ++ q ++ (" " : Str)
theorem useF : ∀ (n : Fin 4), okW (fN n) ∧ pathB (fN n) = true ∧ wdB (fN n) = true ∧ fN n ∈ filL ∧ (useZ (fN n)).length ≤ 10 ∧ (∀ m : Fin 4, fN n = fN m → n = m) := by decide +kernel
theorem use_ll (n : Fin 4) : LLs [useZ (fN n)] [[tW "use", tW (fN n)]] := by
  obtain ⟨_, _, h, _, h5, _⟩ := useF n
  have e0 : tl ("use " : Str) = tl ("use" : Str) ++ [32] ∧ tl (" " : Str) = [32] := by decide +kernel
  have w1 : Wd "use" := wd_of (by decide +kernel)
  have w2 := wd_of h
  have e : tl (useZ (fN n)) = tl ("use" : Str) ++ (32 :: (tl (fN n) ++ (32 :: []))) := by
    show tl (("use " : Str) ++ fN n ++ (" " : Str)) = _
    rw [tl_append, tl_append, e0.1, e0.2]
    simp
  have c1 : LnC ("use " : Str) ∧ LnC (" " : Str) := by decide +kernel
  refine LLs.one (.inr ⟨by rw [e]; exact w1.nsk _, ?_⟩) ((c1.1.app w2.ln).app c1.2) (by omega)
  rw [e]
  exact Lx.wd w1.n0 w1.w (Stop.cons (by decide +kernel)) (.sp (Lx.wd w2.n0 w2.w (Stop.cons (by decide +kernel)) (.sp .nil)))
theorem uses_ll : ∀ {ws : List Nat}, (∀ n ∈ ws, n < 4) → LLs (ws.map fun n => useZ (fN n)) (ws.map fun n => [tW "use", tW (fN n)])
  | [], _ => trivial
  | n :: ws, h => LLs.app (use_ll ⟨n, h n List.mem_cons_self⟩) (uses_ll fun m hm => h m (List.mem_cons_of_mem _ hm))
/-- one file, named by a use -/
theorem fil_sub {es : List (Str × Ent)} {done its : List It} {fs : List Str} {q t : Str} (hq : q ∈ filL) (hf : ∀ q ∈ fs, q ∈ filL) (hfl : fs.length ≤ 100) (ho : ∀ x ∈ done ++ its, ItOk x) (hn : ((done ++ its).map (·.k)).Nodup) (hl : (done ++ its).length ≤ 20) (ht : tl t = lnT (its.flatMap itZ)) (htl : t.length ≤ 1000) :
    Fil es 1 (stOf done fs) q t (stOf (done ++ its) (fs ++ [q])) := by
  have hL := its_lls (its := its) fun x hx => ho x (List.mem_append_right _ hx)
  refine ⟨its.flatMap itK ++ [[]], ?_, htl, hfl, ?_⟩
  · rw [split_lnT ht hL.no]
    exact lns_of hL
  · exact run_items (fs := fs ++ [q]) (rest := [[]]) (fun p hp => by
      rcases List.mem_append.mp hp with h | h
      · exact hf p h
      · rw [List.mem_singleton.mp h]; exact hq) ho hn hl (.skip .nil)
/-- the uses behind one another -/
theorem run_uses {es : List (Str × Ent)} {fIt : Nat → List It} {tx : Nat → Str} : ∀ {ws : List Nat} {done : List It} {fs : List Str}, (∀ n ∈ ws, n < 4) → ws.Nodup → (∀ n ∈ ws, fN n ∉ fs) → (∀ q ∈ fs, q ∈ filL) → fs.length + ws.length < 8 →
    (∀ x ∈ done ++ ws.flatMap fIt, ItOk x) → ((done ++ ws.flatMap fIt).map (·.k)).Nodup → (done ++ ws.flatMap fIt).length ≤ 20 → (∀ n ∈ ws, tl (tx n) = lnT ((fIt n).flatMap itZ) ∧ (tx n).length ≤ 1000 ∧ rslv es 8 (fN n) = some (fN n) ∧ look es (fN n) = some (.file (tx n) "person")) →
    RunL (Fil es 1) es (stOf done fs) ((ws.map fun n => [tW "use", tW (fN n)]) ++ [[]]) (stOf (done ++ ws.flatMap fIt) (fs ++ ws.map fN))
  | [], done, fs, _, _, _, _, _, _, _, _, _ => by
    show RunL (Fil es 1) es (stOf done fs) [[]] (stOf (done ++ []) (fs ++ []))
    rw [List.append_nil, List.append_nil]
    exact .skip .nil
  | n :: ws, done, fs, h4, hnd, hnf, hf, hfl, ho, hn, hl, ht => by
    rw [List.flatMap_cons, ← List.append_assoc] at ho hn hl
    have hn4 := h4 n List.mem_cons_self
    obtain ⟨u1, u2, u3, u4, u5, u6⟩ := useF ⟨n, hn4⟩
    obtain ⟨t1, t2, t3, t4⟩ := ht n List.mem_cons_self
    have hl8 : fs.length < 8 := by omega
    have ho1 : ∀ x ∈ done ++ fIt n, ItOk x := fun x hx => ho x (List.mem_append_left _ hx)
    have hn1 : ((done ++ fIt n).map (·.k)).Nodup := by
      rw [List.map_append] at hn
      exact (List.nodup_append.mp hn).1
    have hl1 : (done ++ fIt n).length ≤ 20 := by rw [List.length_append] at hl; omega
    have hsub := fil_sub (es := es) (done := done) (its := fIt n) (fs := fs) (q := fN n) (t := tx n) u4 hf (by omega) ho1 hn1 hl1 t1 t2
    have ih := run_uses (es := es) (fIt := fIt) (tx := tx) (ws := ws) (done := done ++ fIt n) (fs := fs ++ [fN n]) (fun m hm => h4 m (List.mem_cons_of_mem _ hm)) (List.nodup_cons.mp hnd).2 (fun m hm z => ?_) (fun q hq => ?_) (by rw [List.length_append, List.length_singleton]; rw [List.length_cons] at hfl; omega) ho hn hl fun m hm => ht m (List.mem_cons_of_mem _ hm)
    · have e1 : done ++ (n :: ws).flatMap fIt = done ++ fIt n ++ ws.flatMap fIt := by rw [List.flatMap_cons, List.append_assoc]
      have e2 : fs ++ (n :: ws).map fN = fs ++ [fN n] ++ ws.map fN := by simp
      rw [e1, e2]
      refine .step (t := tW "use") (ts := [tW (fN n)]) (.inr (.inl ⟨⟨fN n, fN n, tx n, rfl, u1, u2, hnf n List.mem_cons_self, fun rd hrd hm => ?_, ?_, hl8, t3, t4, hsub⟩, rfl⟩)) ih
      · obtain ⟨y, hy, rfl⟩ := List.mem_map.mp hrd
        have hok := ho1 y (List.mem_append_left _ hy)
        obtain ⟨pat', no', _, _, m3, ho', _⟩ := hok.ru
        rw [ho'] at hm
        obtain ⟨j', hj', e'⟩ := List.mem_map.mp hm
        have := List.mem_range.mp hj'
        have h8 := (outF pat' ⟨y.k, hok.k10⟩ ⟨j', by omega⟩).2.2.2.2.2.2.2.1
        exact h8 (by show outS pat' y.k j' ∈ filL; rw [e']; exact u4)
      · show (done.map (·.rd)).length ≤ 24
        rw [List.length_map]
        rw [List.length_append] at hl1
        omega
    · rcases List.mem_append.mp z with h | h
      · exact hnf m (List.mem_cons_of_mem _ hm) h
      · have h2 := List.mem_singleton.mp h
        have h3 := u6 ⟨m, h4 m (List.mem_cons_of_mem _ hm)⟩ h2.symm
        have h5 : n = m := congrArg Fin.val h3
        exact (List.nodup_cons.mp hnd).1 (h5 ▸ hm)
    · rcases List.mem_append.mp hq with h | h
      · exact hf q h
      · rw [List.mem_singleton.mp h]; exact u4
/-- the whole -/
theorem fil_main {es : List (Str × Ent)} {fIt : Nat → List It} {tx : Nat → Str} {t : Str} {ws : List Nat} (h4 : ∀ n ∈ ws, n < 4) (hnd : (0 :: ws).Nodup) (hl : ws.length ≤ 3) (ho : ∀ x ∈ (0 :: ws).flatMap fIt, ItOk x) (hn : (((0 :: ws).flatMap fIt).map (·.k)).Nodup) (hl : ((0 :: ws).flatMap fIt).length ≤ 20)
    (ht : ∀ n ∈ ws, tl (tx n) = lnT ((fIt n).flatMap itZ) ∧ (tx n).length ≤ 1000 ∧ rslv es 8 (fN n) = some (fN n) ∧ look es (fN n) = some (.file (tx n) "person")) (h0 : tl t = lnT ((fIt 0).flatMap itZ ++ ws.map fun n => useZ (fN n))) (ht0 : t.length ≤ 1000) :
    Fil es 2 ⟨[], [], []⟩ "rules" t (stOf ((0 :: ws).flatMap fIt) ((0 :: ws).map fN)) := by
  rw [List.flatMap_cons] at ho hn hl ⊢
  have hL := LLs.app (its_lls (its := fIt 0) fun x hx => ho x (List.mem_append_left _ hx)) (uses_ll h4)
  have e0 : ("rules" : Str) = fN 0 := rfl
  refine ⟨((fIt 0).flatMap itK ++ ws.map fun n => [tW "use", tW (fN n)]) ++ [[]], ?_, ht0, by simp, ?_⟩
  · rw [split_lnT h0 hL.no]
    exact lns_of hL
  · have hu := run_uses (es := es) (fIt := fIt) (tx := tx) (ws := ws) (done := fIt 0) (fs := [fN 0]) h4 (List.nodup_cons.mp hnd).2 (fun n hn z => ?_) (fun q hq => ?_) (by simp; omega) ho hn hl ht
    · rw [List.append_assoc]
      have hn1 : ((([] : List It) ++ fIt 0).map (·.k)).Nodup := by
        rw [List.map_append] at hn
        exact (List.nodup_append.mp hn).1
      exact run_items (its := fIt 0) (done := []) (fs := [fN 0]) (rest := (ws.map fun n => [tW "use", tW (fN n)]) ++ [[]]) (fun q hq => by rw [List.mem_singleton.mp hq]; decide +kernel) (fun x hx => ho x (List.mem_append_left _ hx)) hn1 (by rw [List.length_append] at hl; simp; omega) hu
    · have h2 := List.mem_singleton.mp z
      have h3 := (useF ⟨n, h4 n hn⟩).2.2.2.2.2 ⟨0, by decide⟩ h2
      have h5 : n = 0 := congrArg Fin.val h3
      subst h5
      exact (List.nodup_cons.mp hnd).1 hn
    · rw [List.mem_singleton.mp hq]
      decide +kernel
end Ky

/-! The law's state. -/
namespace Ky
open PySem PySem.Spec PyProof.Rows L2 TL
abbrev tl4 {α : Type} (f : Nat → α) : List α := [f 0, f 1, f 2, f 3]
def updF {α : Type} (f : Nat → α) (w : Nat) (v : α) : Nat → α := fun x => if x = w then v else f x
theorem updF_same {α : Type} {f : Nat → α} {w : Nat} {v : α} : updF f w v w = v := if_pos rfl
theorem updF_ne {α : Type} {f : Nat → α} {w x : Nat} {v : α} (h : x ≠ w) : updF f w v x = f x := if_neg h
theorem lt4c {w : Nat} (h : w < 4) : w = 0 ∨ w = 1 ∨ w = 2 ∨ w = 3 := by omega
theorem tl4_get {α : Type} (f : Nat → α) {w : Nat} (h : w < 4) : (tl4 f)[w]? = some (f w) := by
  rcases lt4c h with rfl | rfl | rfl | rfl <;> rfl
theorem tl4_set {α : Type} (f : Nat → α) {w : Nat} (h : w < 4) (v : α) : (tl4 f).set w v = tl4 (updF f w v) := by
  rcases lt4c h with rfl | rfl | rfl | rfl <;> rfl
/-! ### due rules -/
def DuesAt (K : PySem.W.Frag) (H : Hp) : List V → List RuD → Prop
  | [], [] => True
  | v :: vs, r :: rs => DueAt K H v r ∧ DuesAt K H vs rs
  | _, _ => False
theorem DuesAt.ki {K : PySem.W.Frag} {H H' : Hp} (e : KI H H') : ∀ {vs : List V} {rs : List RuD}, DuesAt K H vs rs → DuesAt K H' vs rs
  | [], [], _ => trivial
  | _ :: _, _ :: _, ⟨h1, h2⟩ => ⟨h1.ki e, DuesAt.ki e h2⟩
theorem DuesAt.len {K : PySem.W.Frag} {H : Hp} : ∀ {vs : List V} {rs : List RuD}, DuesAt K H vs rs → vs.length = rs.length
  | [], [], _ => rfl
  | _ :: _, _ :: _, ⟨_, h2⟩ => by rw [List.length_cons, List.length_cons, h2.len]
theorem DuesAt.app {K : PySem.W.Frag} {H : Hp} : ∀ {vs us : List V} {rs ts : List RuD}, DuesAt K H vs rs → DuesAt K H us ts → DuesAt K H (vs ++ us) (rs ++ ts)
  | [], _, [], _, _, h => h
  | _ :: _, _, _ :: _, _, ⟨h1, h2⟩, h => ⟨h1, h2.app h⟩
theorem DuesAt.get {K : PySem.W.Frag} {H : Hp} {r : RuD} : ∀ {vs : List V} {rs : List RuD} {i : Nat}, DuesAt K H vs rs → rs[i]? = some r → ∃ v, vs[i]? = some v ∧ DueAt K H v r
  | [], [], i, _, h => by simp at h
  | v :: vs, r' :: rs, 0, ⟨h1, _⟩, h => by
    have e : r' = r := by simpa using h
    subst e
    exact ⟨v, rfl, h1⟩
  | v :: vs, r' :: rs, i + 1, ⟨_, h2⟩, h => by
    obtain ⟨u, e1, e2⟩ := DuesAt.get (i := i) (H := H) h2 (by simpa using h)
    exact ⟨u, by simpa using e1, e2⟩
/-! ### addresses, the heap -/
structure AD where
  ln : Addr
  lt : Addr
  lr : Addr
  lf : Addr
  ra : Nat → Addr
structure ADok (A : AD) : Prop where
  n1 : A.lt ≠ A.ln
  n2 : A.lr ≠ A.ln
  n3 : A.lf ≠ A.ln
  n4 : A.lr ≠ A.lt
  n5 : A.lf ≠ A.lt
  n6 : ∀ w < 4, A.ra w ≠ A.ln
  n7 : ∀ w < 4, A.ra w ≠ A.lt
  n8 : ∀ w < 4, A.ra w ≠ A.lr
  n9 : ∀ w < 4, A.ra w ≠ A.lf
  n10 : ∀ v w, v < 4 → w < 4 → A.ra v = A.ra w → v = w
structure GH (K : PySem.W.Frag) (H : Hp) (A : AD) (cn : Nat) (fIt : Nat → List It) (tx : Nat → Str) : Prop where
  num : NumL H A.ln
  txt : H A.lt = some (.lst (tl4 fun x => V.str (tx x)))
  rul : H A.lr = some (.lst (tl4 fun x => V.ref (A.ra x)))
  fil : H A.lf = some (.lst (((List.range cn).map fN).map V.str))
  rus : ∀ w < 4, ∃ vs, H (A.ra w) = some (.lst vs) ∧ DuesAt K H vs ((fIt w).map (·.rd))
structure GP (cn : Nat) (fIt : Nat → List It) (tx : Nat → Str) (i : Nat) : Prop where
  ok : ∀ w, ∀ e ∈ fIt w, ItOk e
  key : (((List.range cn).flatMap fIt).map (·.k)).Nodup
  lti : ∀ w, ∀ e ∈ fIt w, e.k < i
  len : ((List.range cn).flatMap fIt).length ≤ i
  emp : ∀ w, cn ≤ w → fIt w = []
  tln : ∀ w < 4, tl (tx w) = lnT ((fIt w).flatMap itZ)
  tle : ∀ w < 4, (tx w).length ≤ 398 - 20 * cn
section
variable {K : PySem.W.Frag} {H H' : Hp} {A : AD} {cn : Nat} {fIt : Nat → List It} {tx : Nat → Str}
theorem but_ki {p : Addr} {xs : List V} (b : But p H H') (h : H p = some (.lst xs)) : KI H H' := fun c o hc n => b c o hc fun e => by
  rw [e, h] at hc
  cases hc
  exact n
theorem but_kid {p : Addr} {kvs : List (Key × V)} (b : But p H H') (h : H p = some (.dK kvs)) : KI H H' := fun c o hc n => b c o hc fun e => by
  rw [e, h] at hc
  cases hc
  exact n
theorem GH.same (h : GH K H A cn fIt tx) (e : Same H H') : GH K H' A cn fIt tx :=
  ⟨h.num.same e, e _ _ h.txt, e _ _ h.rul, e _ _ h.fil, fun w hw => by
    obtain ⟨vs, h1, h2⟩ := h.rus w hw
    exact ⟨vs, e _ _ h1, h2.ki (KI.same e)⟩⟩
theorem GH.but (h : GH K H A cn fIt tx) (a : ADok A) (b : But A.ln H H') (hN : NumL H' A.ln) : GH K H' A cn fIt tx := by
  obtain ⟨ns, hns, _⟩ := h.num
  have e := but_ki b hns
  exact ⟨hN, b _ _ h.txt a.n1, b _ _ h.rul a.n2, b _ _ h.fil a.n3, fun w hw => by
    obtain ⟨vs, h1, h2⟩ := h.rus w hw
    exact ⟨vs, b _ _ h1 (a.n6 w hw), h2.ki e⟩⟩
theorem GH.butd {p : Addr} {kvs : List (Key × V)} (h : GH K H A cn fIt tx) (hp : H p = some (.dK kvs)) (b : But p H H') : GH K H' A cn fIt tx := by
  have e := but_kid b hp
  have nl : ∀ {c : Addr} {xs : List V}, H c = some (.lst xs) → c ≠ p := fun hc z => by
    rw [z, hp] at hc
    cases hc
  refine ⟨?_, b _ _ h.txt (nl h.txt), b _ _ h.rul (nl h.rul), b _ _ h.fil (nl h.fil), fun w hw => ?_⟩
  · obtain ⟨ns, h1, h2⟩ := h.num
    exact ⟨ns, b _ _ h1 (nl h1), h2⟩
  · obtain ⟨vs, h1, h2⟩ := h.rus w hw
    exact ⟨vs, b _ _ h1 (nl h1), h2.ki e⟩
theorem GH.setT (h : GH K H A cn fIt tx) (a : ADok A) {w : Nat} (hw : w < 4) (z : Str) : GH K (upd H A.lt (.lst ((tl4 fun x => V.str (tx x)).set w (.str z)))) A cn fIt (updF tx w z) := by
  have e : KI H (upd H A.lt (.lst ((tl4 fun x => V.str (tx x)).set w (.str z)))) := but_ki (But.upd _) h.txt
  refine ⟨?_, ?_, by rw [upd_ne a.n4]; exact h.rul, by rw [upd_ne a.n5]; exact h.fil, fun v hv => ?_⟩
  · obtain ⟨ns, h1, h2⟩ := h.num
    exact ⟨ns, by rw [upd_ne a.n1.symm]; exact h1, h2⟩
  · rw [upd_same, tl4_set _ hw]
    rcases lt4c hw with rfl | rfl | rfl | rfl <;> rfl
  · obtain ⟨vs, h1, h2⟩ := h.rus v hv
    exact ⟨vs, by rw [upd_ne (a.n7 v hv)]; exact h1, h2.ki e⟩
theorem GH.addR (h : GH K H A cn fIt tx) (a : ADok A) {w : Nat} (hw : w < 4) {vs : List V} {v : V} {e : It} (hv : H (A.ra w) = some (.lst vs)) (hd : DuesAt K H vs ((fIt w).map (·.rd))) (he : DueAt K H v e.rd) : GH K (upd H (A.ra w) (.lst (vs ++ [v]))) A cn (updF fIt w (fIt w ++ [e])) tx := by
  have ki : KI H (upd H (A.ra w) (.lst (vs ++ [v]))) := but_ki (But.upd _) hv
  refine ⟨?_, by rw [upd_ne (a.n7 w hw).symm]; exact h.txt, by rw [upd_ne (a.n8 w hw).symm]; exact h.rul, by rw [upd_ne (a.n9 w hw).symm]; exact h.fil, fun u hu => ?_⟩
  · obtain ⟨ns, h1, h2⟩ := h.num
    exact ⟨ns, by rw [upd_ne (a.n6 w hw).symm]; exact h1, h2⟩
  · by_cases z : u = w
    · subst z
      refine ⟨_, upd_same, ?_⟩
      rw [updF_same, List.map_append]
      exact (hd.ki ki).app (us := [v]) (ts := [e.rd]) ⟨he.ki ki, trivial⟩
    · obtain ⟨us, h1, h2⟩ := h.rus u hu
      refine ⟨us, by rw [upd_ne fun q => z (a.n10 u w hu hw q)]; exact h1, ?_⟩
      rw [updF_ne z]
      exact h2.ki ki
end
/-! ### items are put -/
theorem flat_ne {fIt : Nat → List It} {w : Nat} {v : List It} : ∀ {l : List Nat}, w ∉ l → l.flatMap (updF fIt w v) = l.flatMap fIt
  | [], _ => rfl
  | a :: l, h => by
    have q : a ≠ w := fun e => h (by rw [e]; exact List.mem_cons_self)
    rw [List.flatMap_cons, List.flatMap_cons, flat_ne fun m => h (List.mem_cons_of_mem _ m), updF_ne q]
theorem flat_upd {fIt : Nat → List It} {w : Nat} {e : It} : ∀ {l : List Nat}, l.Nodup → w ∈ l → (l.flatMap (updF fIt w (fIt w ++ [e]))).Perm (l.flatMap fIt ++ [e])
  | a :: l, hn, hm => by
    obtain ⟨h1, h2⟩ := List.nodup_cons.mp hn
    rw [List.flatMap_cons, List.flatMap_cons]
    by_cases z : a = w
    · subst z
      rw [updF_same, flat_ne h1, List.append_assoc, List.append_assoc]
      exact List.Perm.append_left _ List.perm_append_comm
    · rw [updF_ne z, List.append_assoc]
      refine List.Perm.append_left _ (flat_upd h2 ?_)
      rcases List.mem_cons.mp hm with q | q
      · exact absurd q.symm z
      · exact q
theorem GP.mono {cn i : Nat} {fIt : Nat → List It} {tx : Nat → Str} (h : GP cn fIt tx i) : GP cn fIt tx (i + 1) :=
  ⟨h.ok, h.key, fun w e he => Nat.lt_succ_of_lt (h.lti w e he), Nat.le_succ_of_le h.len, h.emp, h.tln, h.tle⟩
theorem GP.add {cn i w : Nat} {fIt : Nat → List It} {tx : Nat → Str} {e : It} {z : Str} (h : GP cn fIt tx i) (hw : w < cn) (hc : cn ≤ 4) (he : ItOk e) (hk : e.k = i) (hz : tl z = tl (tx w) ++ lnT (itZ e)) (hl : z.length ≤ 398 - 20 * cn) :
    GP cn (updF fIt w (fIt w ++ [e])) (updF tx w z) (i + 1) ∧ ((List.range cn).flatMap (updF fIt w (fIt w ++ [e]))).Perm ((List.range cn).flatMap fIt ++ [e]) := by
  have hp := flat_upd (fIt := fIt) (w := w) (e := e) (l := List.range cn) List.nodup_range (List.mem_range.mpr hw)
  have hcase : ∀ v, ∀ x ∈ updF fIt w (fIt w ++ [e]) v, x ∈ fIt v ∨ x = e := fun v x hx => by
    by_cases q : v = w
    · subst q
      rw [updF_same] at hx
      rcases List.mem_append.mp hx with h | h
      · exact .inl h
      · exact .inr (List.mem_singleton.mp h)
    · rw [updF_ne q] at hx
      exact .inl hx
  refine ⟨⟨fun v x hx => ?_, ?_, fun v x hx => ?_, ?_, fun v hv => ?_, fun v hv => ?_, fun v hv => ?_⟩, hp⟩
  · rcases hcase v x hx with h2 | h2
    · exact h.ok v x h2
    · rw [h2]; exact he
  · rw [(hp.map (·.k)).nodup_iff, List.map_append]
    refine List.nodup_append.mpr ⟨h.key, by simp, fun a ha b hb => ?_⟩
    obtain ⟨x, hx, rfl⟩ := List.mem_map.mp ha
    obtain ⟨v, _, hv⟩ := List.mem_flatMap.mp hx
    have h1 := h.lti v x hv
    have h2 : b = e.k := by simpa using hb
    rw [h2, hk]
    omega
  · rcases hcase v x hx with h2 | h2
    · exact Nat.lt_succ_of_lt (h.lti v x h2)
    · rw [h2, hk]; exact Nat.lt_succ_self _
  · rw [hp.length_eq, List.length_append, List.length_singleton]
    exact Nat.succ_le_succ h.len
  · rw [updF_ne (by omega)]
    exact h.emp v hv
  · by_cases q : v = w
    · subst q
      rw [updF_same, updF_same, List.flatMap_append, lnT_app, hz, h.tln v hv]
      simp
    · rw [updF_ne q, updF_ne q]
      exact h.tln v hv
  · by_cases q : v = w
    · subst q
      rw [updF_same]
      exact hl
    · rw [updF_ne q]
      exact h.tle v hv
/-! ### the order of the uses -/
def wsL (cn c n : Nat) : List Nat := (List.range n).map fun j => 1 + (j + 1 + c) % (cn - 1)
theorem ws_perm {cn c : Nat} (h1 : 1 ≤ cn) (h4 : cn ≤ 4) : (0 :: wsL cn c (cn - 1)).Perm (List.range cn) := by
  have hc : cn = 1 ∨ cn = 2 ∨ cn = 3 ∨ cn = 4 := by omega
  rcases hc with rfl | rfl | rfl | rfl
  · exact List.Perm.refl _
  · have e : wsL 2 c 1 = [1 + (0 + 1 + c) % 1] := rfl
    show (0 :: wsL 2 c 1).Perm _
    have h : (0 + 1 + c) % 1 = 0 := Nat.mod_one _
    rw [e, h]
    exact List.Perm.refl _
  · have e : wsL 3 c 2 = [1 + (0 + 1 + c) % 2, 1 + (1 + 1 + c) % 2] := rfl
    show (0 :: wsL 3 c 2).Perm _
    rw [e]
    rcases (by omega : c % 2 = 0 ∨ c % 2 = 1) with h | h
    · rw [(by omega : (0 + 1 + c) % 2 = 1), (by omega : (1 + 1 + c) % 2 = 0)]
      decide
    · rw [(by omega : (0 + 1 + c) % 2 = 0), (by omega : (1 + 1 + c) % 2 = 1)]
      decide
  · have e : wsL 4 c 3 = [1 + (0 + 1 + c) % 3, 1 + (1 + 1 + c) % 3, 1 + (2 + 1 + c) % 3] := rfl
    show (0 :: wsL 4 c 3).Perm _
    rw [e]
    rcases (by omega : c % 3 = 0 ∨ c % 3 = 1 ∨ c % 3 = 2) with h | h | h
    · rw [(by omega : (0 + 1 + c) % 3 = 1), (by omega : (1 + 1 + c) % 3 = 2), (by omega : (2 + 1 + c) % 3 = 0)]
      decide
    · rw [(by omega : (0 + 1 + c) % 3 = 2), (by omega : (1 + 1 + c) % 3 = 0), (by omega : (2 + 1 + c) % 3 = 1)]
      decide
    · rw [(by omega : (0 + 1 + c) % 3 = 0), (by omega : (1 + 1 + c) % 3 = 1), (by omega : (2 + 1 + c) % 3 = 2)]
      decide
/-! ### entries -/
theorem look_cons {p : Str × Ent} {es : List (Str × Ent)} {q : Str} : look (p :: es) q = if p.1 = q then some p.2 else look es q := by
  unfold look
  rw [List.find?_cons]
  by_cases h : p.1 = q
  · rw [decide_eq_true h, if_pos h]
    rfl
  · rw [decide_eq_false h, if_neg h]
theorem look_put {q q' : Str} {e : Ent} : ∀ es : List (Str × Ent), look (putE es q e) q' = if q' = q then some e else look es q' := by
  have hmap : ∀ es : List (Str × Ent), (es.any fun pe => decide (pe.1 = q)) = true → look (es.map fun pe => if pe.1 = q then (pe.1, e) else pe) q' = if q' = q then some e else look es q' := by
    intro es
    induction es with
    | nil => intro h; cases h
    | cons p es ih =>
      intro h
      rw [List.map_cons, look_cons, look_cons]
      by_cases hp : p.1 = q
      · rw [if_pos hp]
        by_cases hq : q' = q
        · rw [if_pos hq, if_pos (by rw [hq]; exact hp)]
        · rw [if_neg hq, if_neg (fun z => hq (by rw [← z]; exact hp)), if_neg (fun z => hq (by rw [← z]; exact hp))]
          by_cases hr : (es.any fun pe => decide (pe.1 = q)) = true
          · rw [ih hr, if_neg hq]
          · have : (es.map fun pe => if pe.1 = q then (pe.1, e) else pe) = es := by
              conv => rhs; rw [← List.map_id es]
              apply List.map_congr_left
              intro x hx
              have : x.1 ≠ q := fun z => hr (List.any_eq_true.mpr ⟨x, hx, decide_eq_true z⟩)
              rw [if_neg this]
              rfl
            rw [this]
      · rw [if_neg hp]
        have h2 : (es.any fun pe => decide (pe.1 = q)) = true := by
          rw [List.any_cons, decide_eq_false hp, Bool.false_or] at h
          exact h
        rw [ih h2]
        by_cases hq : q' = q
        · rw [if_pos hq, if_pos hq, if_neg (fun z => hp (by rw [z]; exact hq))]
        · rw [if_neg hq, if_neg hq]
  intro es
  unfold putE
  by_cases z : (es.any fun pe => decide (pe.1 = q)) = true
  · rw [if_pos z]
    exact hmap es z
  · rw [if_neg z]
    have hno : ∀ es : List (Str × Ent), ¬ (es.any fun pe => decide (pe.1 = q)) = true → look (es ++ [(q, e)]) q' = if q' = q then some e else look es q' := by
      intro es
      induction es with
      | nil =>
        intro _
        rw [List.nil_append, look_cons]
        by_cases hq : q' = q
        · rw [if_pos hq, if_pos hq.symm]
        · rw [if_neg hq, if_neg fun z => hq z.symm]
      | cons p es ih =>
        intro h
        rw [List.any_cons] at h
        have h1 : ¬ p.1 = q := fun z => h (by rw [decide_eq_true z] <;> rfl)
        have h2 : ¬ (es.any fun pe => decide (pe.1 = q)) = true := fun z => h (by rw [z, Bool.or_true])
        rw [List.cons_append, look_cons, look_cons, ih h2]
        by_cases hp : p.1 = q'
        · rw [if_pos hp, if_pos hp, if_neg (fun z => h1 (by rw [hp]; exact z))]
        · rw [if_neg hp, if_neg hp]
    exact hno es z
theorem rslv_file {es : List (Str × Ent)} {q t b : Str} (h : look es q = some (.file t b)) : ∀ n, rslv es n q = some q
  | 0 => by unfold rslv; rw [h]; rfl
  | n + 1 => by unfold rslv; rw [h]; rfl
theorem rslv_link {es : List (Str × Ent)} {q r t b : Str} (h : look es q = some (.link r)) (h2 : look es r = some (.file t b)) (n : Nat) : rslv es (n + 1) q = some r := by
  unfold rslv
  rw [h]
  exact rslv_file h2 n
/-! ### the start -/
def raS (r0 r1 r2 r3 : Addr) : Nat → Addr
  | 0 => r0
  | 1 => r1
  | 2 => r2
  | _ => r3
theorem start_GH {K : PySem.W.Frag} {H3 : Hp} {ln p4 lf lt r0 r1 r2 r3 lr sd : Addr} {cn : Nat} {o1 : HO} (hN : NumL H3 ln) (_h1 : H3 p4 = none) (h2 : (upd H3 p4 o1) lf = none)
    (h3 : (upd (upd H3 p4 o1) lf (.lst (((List.range cn).map fN).map V.str))) lt = none)
    (h4 : (upd (upd (upd H3 p4 o1) lf (.lst (((List.range cn).map fN).map V.str))) lt (.lst [.str "", .str "", .str "", .str ""])) r0 = none)
    (h5 : (upd (upd (upd (upd H3 p4 o1) lf (.lst (((List.range cn).map fN).map V.str))) lt (.lst [.str "", .str "", .str "", .str ""])) r0 (.lst [])) r1 = none)
    (h6 : (upd (upd (upd (upd (upd H3 p4 o1) lf (.lst (((List.range cn).map fN).map V.str))) lt (.lst [.str "", .str "", .str "", .str ""])) r0 (.lst [])) r1 (.lst [])) r2 = none)
    (h7 : (upd (upd (upd (upd (upd (upd H3 p4 o1) lf (.lst (((List.range cn).map fN).map V.str))) lt (.lst [.str "", .str "", .str "", .str ""])) r0 (.lst [])) r1 (.lst [])) r2 (.lst [])) r3 = none)
    (h8 : (upd (upd (upd (upd (upd (upd (upd H3 p4 o1) lf (.lst (((List.range cn).map fN).map V.str))) lt (.lst [.str "", .str "", .str "", .str ""])) r0 (.lst [])) r1 (.lst [])) r2 (.lst [])) r3 (.lst [])) lr = none)
    (h9 : (upd (upd (upd (upd (upd (upd (upd (upd H3 p4 o1) lf (.lst (((List.range cn).map fN).map V.str))) lt (.lst [.str "", .str "", .str "", .str ""])) r0 (.lst [])) r1 (.lst [])) r2 (.lst [])) r3 (.lst [])) lr (.lst [.ref r0, .ref r1, .ref r2, .ref r3])) sd = none) :
    ADok ⟨ln, lt, lr, lf, raS r0 r1 r2 r3⟩ ∧ GH K (upd (upd (upd (upd (upd (upd (upd (upd (upd H3 p4 o1) lf (.lst (((List.range cn).map fN).map V.str))) lt (.lst [.str "", .str "", .str "", .str ""])) r0 (.lst [])) r1 (.lst [])) r2 (.lst [])) r3 (.lst [])) lr (.lst [.ref r0, .ref r1, .ref r2, .ref r3])) sd (.dK [])) ⟨ln, lt, lr, lf, raS r0 r1 r2 r3⟩ cn (fun _ => []) (fun _ => "") := by
  obtain ⟨ns, hns, hns2⟩ := hN
  have a1 := same_new _h1 o1
  have a2 := same_new h2 (.lst (((List.range cn).map fN).map V.str))
  have a3 := same_new h3 (.lst [.str "", .str "", .str "", .str ""])
  have a4 := same_new h4 (.lst [])
  have a5 := same_new h5 (.lst [])
  have a6 := same_new h6 (.lst [])
  have a7 := same_new h7 (.lst [])
  have a8 := same_new h8 (.lst [.ref r0, .ref r1, .ref r2, .ref r3])
  have a9 := same_new h9 (.dK [])
  -- what stands when
  have ln1 := a1 _ _ hns
  have ln2 := a2 _ _ ln1
  have ln3 := a3 _ _ ln2
  have ln4 := a4 _ _ ln3
  have ln5 := a5 _ _ ln4
  have ln6 := a6 _ _ ln5
  have ln7 := a7 _ _ ln6
  have ln8 := a8 _ _ ln7
  have ln9 := a9 _ _ ln8
  have lf2 : (upd (upd H3 p4 o1) lf (.lst (((List.range cn).map fN).map V.str))) lf = some _ := upd_same
  have lf3 := a3 _ _ lf2
  have lf4 := a4 _ _ lf3
  have lf5 := a5 _ _ lf4
  have lf6 := a6 _ _ lf5
  have lf7 := a7 _ _ lf6
  have lf9 := a9 _ _ (a8 _ _ lf7)
  have lt3 : (upd (upd (upd H3 p4 o1) lf (.lst (((List.range cn).map fN).map V.str))) lt (.lst [.str "", .str "", .str "", .str ""])) lt = some _ := upd_same
  have lt4 := a4 _ _ lt3
  have lt5 := a5 _ _ lt4
  have lt6 := a6 _ _ lt5
  have lt7 := a7 _ _ lt6
  have lt9 := a9 _ _ (a8 _ _ lt7)
  have r04 : (upd (upd (upd (upd H3 p4 o1) lf (.lst (((List.range cn).map fN).map V.str))) lt (.lst [.str "", .str "", .str "", .str ""])) r0 (.lst [])) r0 = some _ := upd_same
  have r05 := a5 _ _ r04
  have r06 := a6 _ _ r05
  have r07 := a7 _ _ r06
  have r09 := a9 _ _ (a8 _ _ r07)
  have r15 : (upd (upd (upd (upd (upd H3 p4 o1) lf (.lst (((List.range cn).map fN).map V.str))) lt (.lst [.str "", .str "", .str "", .str ""])) r0 (.lst [])) r1 (.lst [])) r1 = some _ := upd_same
  have r16 := a6 _ _ r15
  have r17 := a7 _ _ r16
  have r19 := a9 _ _ (a8 _ _ r17)
  have r26 : (upd (upd (upd (upd (upd (upd H3 p4 o1) lf (.lst (((List.range cn).map fN).map V.str))) lt (.lst [.str "", .str "", .str "", .str ""])) r0 (.lst [])) r1 (.lst [])) r2 (.lst [])) r2 = some _ := upd_same
  have r27 := a7 _ _ r26
  have r29 := a9 _ _ (a8 _ _ r27)
  have r37 : (upd (upd (upd (upd (upd (upd (upd H3 p4 o1) lf (.lst (((List.range cn).map fN).map V.str))) lt (.lst [.str "", .str "", .str "", .str ""])) r0 (.lst [])) r1 (.lst [])) r2 (.lst [])) r3 (.lst [])) r3 = some _ := upd_same
  have r39 := a9 _ _ (a8 _ _ r37)
  have lr9 := a9 _ _ (upd_same (a := lr) (o := .lst [.ref r0, .ref r1, .ref r2, .ref r3]))
  have f4 : ∀ {Q : Nat → Prop}, Q 0 → Q 1 → Q 2 → Q 3 → ∀ w, w < 4 → Q w := fun {Q} q0 q1 q2 q3 w hw => by
    rcases lt4c hw with rfl | rfl | rfl | rfl
    · exact q0
    · exact q1
    · exact q2
    · exact q3
  have e01 : r0 ≠ r1 := ne_of_none r04 h5
  have e02 : r0 ≠ r2 := ne_of_none r05 h6
  have e03 : r0 ≠ r3 := ne_of_none r06 h7
  have e12 : r1 ≠ r2 := ne_of_none r15 h6
  have e13 : r1 ≠ r3 := ne_of_none r16 h7
  have e23 : r2 ≠ r3 := ne_of_none r26 h7
  refine ⟨⟨(ne_of_none ln2 h3).symm, (ne_of_none ln7 h8).symm, (ne_of_none ln1 h2).symm, (ne_of_none lt7 h8).symm, ne_of_none lf2 h3, f4 (ne_of_none ln3 h4).symm (ne_of_none ln4 h5).symm (ne_of_none ln5 h6).symm (ne_of_none ln6 h7).symm, f4 (ne_of_none lt3 h4).symm (ne_of_none lt4 h5).symm (ne_of_none lt5 h6).symm (ne_of_none lt6 h7).symm,
    f4 (ne_of_none r07 h8) (ne_of_none r17 h8) (ne_of_none r27 h8) (ne_of_none r37 h8), f4 (ne_of_none lf3 h4).symm (ne_of_none lf4 h5).symm (ne_of_none lf5 h6).symm (ne_of_none lf6 h7).symm, fun v w hv hw => ?_⟩, ⟨⟨ns, ln9, hns2⟩, lt9, lr9, lf9, f4 ⟨[], r09, trivial⟩ ⟨[], r19, trivial⟩ ⟨[], r29, trivial⟩ ⟨[], r39, trivial⟩⟩⟩
  rcases lt4c hv with rfl | rfl | rfl | rfl <;> rcases lt4c hw with rfl | rfl | rfl | rfl <;> intro z
  · rfl
  · exact absurd z e01
  · exact absurd z e02
  · exact absurd z e03
  · exact absurd z e01.symm
  · rfl
  · exact absurd z e12
  · exact absurd z e13
  · exact absurd z e02.symm
  · exact absurd z e12.symm
  · rfl
  · exact absurd z e23
  · exact absurd z e03.symm
  · exact absurd z e13.symm
  · exact absurd z e23.symm
  · rfl
theorem start_GP {cn : Nat} (h : cn ≤ 4) : GP cn (fun _ => []) (fun _ => ("" : Str)) 0 := by
  have hf : (List.range cn).flatMap (fun _ => ([] : List It)) = [] := by
    induction (List.range cn) with
    | nil => rfl
    | cons a l ih => rw [List.flatMap_cons, ih] <;> rfl
  refine ⟨fun w e he => (nomatch he), by rw [hf]; exact List.nodup_nil, fun w e he => (nomatch he), by rw [hf]; exact Nat.le_refl _, fun _ _ => rfl, fun w _ => ?_, fun w _ => Nat.zero_le _⟩
  show tl ("" : Str) = []
  decide +kernel
/-! ### settings -/
def setZ' (k : Nat) (so : Option Nat) : List Str := match so with
  | none => []
  | some d => [setL k d, " # note"]
def sgl (k : Nat) (so : Option Nat) : List (Str × Str) := match so with
  | none => []
  | some d => [(setN k, setV d)]
theorem set_nd : ∀ {its : List It}, (∀ e ∈ its, ItOk e) → (its.map (·.k)).Nodup → ((its.filterMap setP).map (·.1)).Nodup
  | [], _, _ => List.nodup_nil
  | e :: its, ho, hn => by
    obtain ⟨h1, h2⟩ := List.nodup_cons.mp hn
    have ih := set_nd (its := its) (fun x hx => ho x (List.mem_cons_of_mem _ hx)) h2
    rw [List.filterMap_cons]
    cases hs : e.set with
    | none =>
      have : setP e = none := by unfold setP; rw [hs]; rfl
      rw [this]
      exact ih
    | some d =>
      have : setP e = some (setN e.k, setV d) := by unfold setP; rw [hs]; rfl
      rw [this]
      refine List.nodup_cons.mpr ⟨set_fresh (ho e List.mem_cons_self).k10 (fun x hx => ho x (List.mem_cons_of_mem _ hx)) fun x hx z => h1 (List.mem_map.mpr ⟨x, hx, z⟩), ih⟩
theorem fresh_ss {cn i : Nat} {fIt : Nat → List It} {tx : Nat → Str} {ss : List (Str × Str)} (h : GP cn fIt tx i) (hp : ss.Perm (((List.range cn).flatMap fIt).filterMap setP)) (hi : i < 10) : setN i ∉ ss.map (·.1) := fun m => by
  have m2 := ((hp.map (·.1)).mem_iff).mp m
  refine set_fresh hi (fun x hx => ?_) (fun x hx z => ?_) m2
  · obtain ⟨v, _, hv⟩ := List.mem_flatMap.mp hx
    exact h.ok v x hv
  · obtain ⟨v, _, hv⟩ := List.mem_flatMap.mp hx
    have := h.lti v x hv
    omega
theorem ss_nd {cn i : Nat} {fIt : Nat → List It} {tx : Nat → Str} {ss : List (Str × Str)} (h : GP cn fIt tx i) (hp : ss.Perm (((List.range cn).flatMap fIt).filterMap setP)) : (ss.map (·.1)).Nodup := by
  refine (hp.map (·.1)).nodup_iff.mpr (set_nd (fun x hx => ?_) h.key)
  obtain ⟨v, _, hv⟩ := List.mem_flatMap.mp hx
  exact h.ok v x hv
theorem ss_len {cn i : Nat} {fIt : Nat → List It} {tx : Nat → Str} {ss : List (Str × Str)} (h : GP cn fIt tx i) (hp : ss.Perm (((List.range cn).flatMap fIt).filterMap setP)) : ss.length ≤ i := by
  rw [hp.length_eq]
  exact Nat.le_trans (List.length_filterMap_le _ _) h.len
theorem line_tl (k d : Nat) : tl (("set s" : Str) ++ numT k ++ ("  \"" : Str) ++ setE1 d ++ ("\"\n # note\n" : Str)) = lnT [setL k d, " # note"] := by
  have e : tl ("\"\n # note\n" : Str) = tl ("\"" : Str) ++ 10 :: (tl (" # note" : Str) ++ 10 :: []) := by decide +kernel
  show _ = tl (("set s" : Str) ++ numT k ++ ("  \"" : Str) ++ setE1 d ++ ("\"" : Str)) ++ 10 :: (tl (" # note" : Str) ++ 10 :: [])
  rw [tl_append _ ("\"\n # note\n" : Str), tl_append _ ("\"" : Str), e]
  simp
theorem putK_new {α : Type} [DecidableEq α] {k : α} {v : V} {kvs : List (α × V)} (h : k ∉ kvs.map (·.1)) : putK kvs k v = kvs ++ [(k, v)] := by
  unfold putK
  rw [if_neg]
  intro z
  obtain ⟨kv, hk, e⟩ := List.any_eq_true.mp z
  exact h (List.mem_map.mpr ⟨kv, hk, of_decide_eq_true e⟩)
theorem mergeK_nd : ∀ {more acc : List (Key × V)}, ((acc ++ more).map (·.1)).Nodup → mergeK acc more = acc ++ more
  | [], acc, _ => by
    rw [List.append_nil]
    rfl
  | kv :: more, acc, h => by
    have e : acc ++ kv :: more = (acc ++ [kv]) ++ more := by simp
    have h1 : kv.1 ∉ acc.map (·.1) := fun m => by
      rw [List.map_append, List.map_cons] at h
      exact (List.nodup_append.mp h).2.2 kv.1 m kv.1 List.mem_cons_self rfl
    show mergeK (putK acc kv.1 kv.2) more = acc ++ kv :: more
    rw [putK_new h1, e]
    rw [e] at h
    exact mergeK_nd h
theorem setE_keys (ss : List (Str × Str)) : (ss.map setE).map (·.1) = (ss.map (·.1)).map (Sum.inr : Str → Key) := by
  rw [List.map_map, List.map_map]
  rfl
theorem setE_nd {ss : List (Str × Str)} (h : (ss.map (·.1)).Nodup) : ((ss.map setE).map (·.1)).Nodup := by
  rw [setE_keys]
  exact List.Pairwise.map _ (fun a b (n : a ≠ b) z => n (Sum.inr.inj z)) h
theorem ss_filter {ss : List (Str × Str)} {n v : Str} (h : n ∉ ss.map (·.1)) : (ss ++ [(n, v)]).filter (fun p => !decide (p.1 = n)) = ss := by
  rw [List.filter_append]
  have e1 : ss.filter (fun p => !decide (p.1 = n)) = ss := List.filter_eq_self.mpr fun p hp => by
    have : p.1 ≠ n := fun z => h (List.mem_map.mpr ⟨p, hp, z⟩)
    rw [decide_eq_false this] <;> rfl
  have e2 : [(n, v)].filter (fun p => !decide (p.1 = n)) = [] := by
    rw [List.filter_cons]
    rw [decide_eq_true rfl]
    rfl
  rw [e1, e2, List.append_nil]
theorem setE_get : ∀ {ss : List (Str × Str)}, (ss.map (·.1)).Nodup → ∀ p ∈ ss, valV (ss.map setE) (Sum.inr p.1 : Key) = some (.str p.2)
  | [], _, p, h => nomatch h
  | q :: ss, hn, p, h => by
    obtain ⟨h1, h2⟩ := List.nodup_cons.mp hn
    rw [List.map_cons]
    rcases List.mem_cons.mp h with rfl | h
    · exact (valV_pos (show (setE p).1 = (Sum.inr p.1 : Key) from rfl)).trans rfl
    · have : q.1 ≠ p.1 := fun z => h1 (List.mem_map.mpr ⟨p, h, z.symm⟩)
      rw [valV_neg (by show (Sum.inr q.1 : Key) ≠ Sum.inr p.1; intro z; exact this (Sum.inr.inj z))]
      exact setE_get h2 p h
/-! ### pairs -/
def PrAt (H : Hp) : List Addr → List (Str × Str) → Prop
  | [], [] => True
  | p :: ps, kv :: kvs => H p = some (.tup [.str kv.1, .str kv.2]) ∧ PrAt H ps kvs
  | _, _ => False
theorem PrAt.keep {H H' : Hp} (e : TKeep H H') : ∀ {ps : List Addr} {l : List (Str × Str)}, PrAt H ps l → PrAt H' ps l
  | [], [], _ => trivial
  | _ :: _, _ :: _, ⟨h1, h2⟩ => ⟨e _ _ h1, PrAt.keep e h2⟩
theorem PrAt.snoc {H : Hp} {p : Addr} {kv : Str × Str} (h : H p = some (.tup [.str kv.1, .str kv.2])) : ∀ {ps : List Addr} {l : List (Str × Str)}, PrAt H ps l → PrAt H (ps ++ [p]) (l ++ [kv])
  | [], [], _ => ⟨h, trivial⟩
  | _ :: _, _ :: _, ⟨h1, h2⟩ => ⟨h1, PrAt.snoc h h2⟩
theorem PrAt.len {H : Hp} : ∀ {ps : List Addr} {l : List (Str × Str)}, PrAt H ps l → ps.length = l.length
  | [], [], _ => rfl
  | _ :: _, _ :: _, ⟨_, h⟩ => by rw [List.length_cons, List.length_cons, h.len]
theorem PrAt.paired {K : PySem.W.Frag} {H : Hp} : ∀ {ps : List Addr} {l : List (Str × Str)}, PrAt H ps l → Paired (fun p kv => SqT K H p [kV kv.1, kv.2]) ps (l.map setE)
  | [], [], _ => .nil
  | _ :: _, _ :: _, ⟨h1, h2⟩ => .cons (.inl (.inl h1)) h2.paired
/-! ### texts that a tree takes -/
theorem txtB_app {a b : List Nat} (ha : txtB a = true) (hb : txtB b = true) : txtB (a ++ b) = true := by
  unfold txtB at *
  rw [List.all_append, ha, hb] <;> rfl
theorem lnc_txt {z : Str} (h : LnC z) : txtB (tl z) = true := by
  unfold txtB
  refine List.all_eq_true.mpr fun c hc => ?_
  have h1 := List.all_eq_true.mp h c hc
  unfold okC at h1
  unfold tcB
  rw [h1, Bool.or_true]
theorem lnT_txt : ∀ {zs : List Str}, (∀ z ∈ zs, LnC z) → txtB (lnT zs) = true
  | [], _ => rfl
  | z :: zs, h => by
    have h1 := lnc_txt (h z List.mem_cons_self)
    have h2 := lnT_txt (zs := zs) fun y hy => h y (List.mem_cons_of_mem _ hy)
    have h3 : txtB (10 :: lnT zs) = true := by
      show (tcB 10 && txtB (lnT zs)) = true
      rw [h2]
      decide +kernel
    exact txtB_app h1 h3
theorem shaped_lst {k : Nat} {ds : List PyData} (h : GdA k ds) (hk : k ≤ 60) : SeqAt.shaped (.list ds) = true ∧ PyData.eqv (.list ds) (.list ds) = true := by
  obtain ⟨a, b, c⟩ := gda_lay h
  have hl : (PyData.list ds).canLay0 = true := a
  refine ⟨Bool.and_eq_true_iff.mpr ⟨hl, decide_eq_true ?_⟩, PySem.SeqAt.eqv_refl _ hl⟩
  show PyData.depthAll ds + 1 ≤ 64
  omega
theorem out_asc {e : It} (h : ItOk e) : RuAsc e.rd := by
  obtain ⟨pat, no, c, _, m3, ho, hi, _⟩ := h.ru
  refine ⟨fun x hx => ?_, fun x hx => ?_⟩
  · rw [ho] at hx
    obtain ⟨j, hj, rfl⟩ := List.mem_map.mp hx
    have := List.mem_range.mp hj
    exact (outF pat ⟨e.k, h.k10⟩ ⟨j, by omega⟩).2.2.2.2.2.1
  · rcases hi x hx with ⟨j, rfl⟩ | ⟨_, rfl⟩
    · exact (wdF j).2.2.2.1
    · exact wdS.2.2.2.2.1
theorem out_hd {e : It} (h : ItOk e) : ∃ x, e.rd.outs[0]? = some x ∧ okW x ∧ (!(Builtin.Str.occurrences x "*" 0 x.length 1).isEmpty) = pattB x := by
  obtain ⟨pat, no, c, m1, m3, ho, _⟩ := h.ru
  have f := outF pat ⟨e.k, h.k10⟩ ⟨0, by decide⟩
  refine ⟨outS pat e.k 0, ?_, f.1, ?_⟩
  · rw [ho, List.getElem?_map, List.getElem?_range (by omega)] <;> rfl
  · exact f.2.2.2.2.2.2.2.2.2.2.trans f.2.2.1.symm
theorem fil_eq : ∀ (w m : Fin 4), m < w → eqV (V.str (fN m)) (V.str (fN w)) = false := by decide +kernel
theorem fil_eq1 (w : Nat) : eqV (V.str (fN w)) (V.str (fN w)) = true := by
  show decide (fN w = fN w) = true
  exact decide_eq_true rfl
end Ky

namespace Ky
open PySem PySem.Spec PyProof.Rows L2 TL
section
variable {P : Program} {w : World} {K : PySem.W.Frag} {mg : Str → Option Value} {base : Heap} {φ : Str × Option Str → FuncData}
/-- [f(x) for x in a list that may just be made] -/
theorem lc_lstv {vs : List Nat} {j : Nat} {σ : L2.St} {H : Hp} {Q : VK} {te tl0 : TE} {xs : List V} (f : V → V) (htl : ∀ R : VK, (∀ a H1, Same H H1 → SqL K H1 a xs → R (.ref a) H1) → tl0 σ H R) (hz : xs.length ≤ 100000)
    (hw : ∀ x, wipe ((wipe σ vs).set j (some x)) vs = wipe σ vs)
    (he : ∀ v ∈ xs, ∀ (H2 : Hp) (Q2 : VK), Same H H2 → (∀ H3, Same H2 H3 → Q2 (f v) H3) → te ((wipe σ vs).set j (some v)) H2 Q2)
    (hq : ∀ D H', H D = none → Same H H' → H' D = some (.lst (xs.map f)) → Q (.ref D) H') : tLc (iList K tl0) (gName j) tYes te vs σ H Q := by
  refine htl _ fun a H1 s1 ha => ⟨a, rfl, ⟨_, ha⟩, fun D hD => ?_⟩
  refine lc_list (K := K) (a := a) (xs := xs) (fun k H' => Same H1 H' ∧ H' D = some (.lst ((xs.take k).map f))) ⟨same_new hD _, upd_same⟩ (fun _ _ _ h => h.1.seq ha) ?_ ?_
  · rintro k x H2 hk ⟨s2, d2⟩
    have hm : x ∈ xs := List.mem_of_getElem? hk
    refine ⟨hw _, ?_⟩
    dsimp only [tYes]
    rw [if_pos rfl]
    refine he x hm _ _ (s1.trans s2) fun H3 s3 => ⟨_, s3 _ _ d2, ?_, Same.mut (s2.trans s3) hD, ?_⟩
    · have := lt_of_get hk
      rw [List.length_map, List.length_take]
      exact szl (by omega)
    · rw [upd_same]
      have e : xs.take (k + 1) = xs.take k ++ [x] := by rw [List.take_add_one, hk]; rfl
      rw [e, List.map_append]
      rfl
  · rintro H2 ⟨s2, d2⟩
    rw [List.take_length] at d2
    exact hq D H2 (s1.free hD) (s1.trans s2) d2
theorem cut_int {ns : List Int} {lo hi : Option Int} : (∀ v ∈ cutV (ns.map V.int) lo hi, ∃ i, v = V.int i) ∧ (cutV (ns.map V.int) lo hi).length ≤ ns.length := by
  refine ⟨fun v hv => ?_, by have := cutV_length (ns.map V.int) lo hi; rwa [List.length_map] at this⟩
  unfold cutV at hv
  have h1 := List.mem_of_mem_take hv
  have h2 := List.mem_of_mem_drop h1
  obtain ⟨i, _, rfl⟩ := List.mem_map.mp h2
  exact ⟨i, rfl⟩
def halfV : V → V
  | .int i => .int ((if i < 0 then -i else i) / 2)
  | v => v
theorem half_ints : ∀ {xs : List V}, (∀ v ∈ xs, ∃ i, v = V.int i) → ∃ ms : List Int, xs.map halfV = ms.map V.int ∧ ms.length = xs.length ∧ ∀ m ∈ ms, 0 ≤ m
  | [], _ => ⟨[], rfl, rfl, by simp⟩
  | v :: xs, h => by
    obtain ⟨i, rfl⟩ := h v List.mem_cons_self
    obtain ⟨ms, e1, e2, e3⟩ := half_ints (xs := xs) fun u hu => h u (List.mem_cons_of_mem _ hu)
    refine ⟨(if i < 0 then -i else i) / 2 :: ms, by rw [List.map_cons, List.map_cons, e1] <;> rfl, by rw [List.length_cons, List.length_cons, e2], fun m hm => ?_⟩
    rcases List.mem_cons.mp hm with rfl | hm
    · split <;> omega
    · exact e3 m hm
theorem fil_cut : ∀ cn : Nat, 1 ≤ cn → cn ≤ 4 → cutV [V.str "rules", V.str "more", V.str "a/b.c", V.str "x_1"] none (some (cn : Int)) = ((List.range cn).map fN).map V.str := by
  intro cn h1 h4
  rcases (by omega : cn = 1 ∨ cn = 2 ∨ cn = 3 ∨ cn = 4) with rfl | rfl | rfl | rfl <;> rfl
def pre8 (sc : Addr) (F cn : Nat) (A : AD) (sd : Addr) : L2.St := [some (.ref sc), some (.int (F : Nat)), some (.ref A.ln), some (.int (cn : Nat)), some (.ref A.lf), some (.ref A.lt), some (.ref A.lr), some (.ref sd)]
def MidS (K : PySem.W.Frag) (A : AD) (cn : Nat) (fIt : Nat → List It) (tx : Nat → Str) (ss : List (Str × Str)) (i : Nat) (q sd : Addr) (vd : V) (txt : Str) (rd : RuD) (pre : V → L2.St) : L2.St → Hp → Prop := fun σ' H' => ∃ (so : Option Nat) (line : Str), σ' = pre (.str line) ∧ (∀ d, so = some d → d < 9) ∧ GH K H' A cn fIt tx ∧
  H' q = some (.tup [vd, .str txt]) ∧ DueAt K H' vd rd ∧ H' sd = some (.dK ((ss ++ sgl i so).map setE)) ∧ tl line = lnT (setZ' i so) ∧ line.length ≤ 40 ∧ (so = none → line = "") ∧ (so ≠ none → line ≠ "")
def MidL (K : PySem.W.Frag) (HC : Hp) (tr tx0 d : Addr) (cn : Nat) (tx : Nat → Str) (t0 : Str) (pre : L2.St) : L2.St → Hp → Prop := fun σ' H' => ∃ (kvs : List (Key × V)) (es : List (Str × Ent)) (r : Str), σ' = pre ∧ But d HC H' ∧ TrW K H' tr tx0 d kvs es ∧ (es.map (·.1)).Nodup ∧
  rslv es 8 "rules" = some r ∧ look es r = some (.file t0 "person") ∧ ∀ v, v ≠ 0 → v < cn → look es (fN v) = some (.file (tx v) "person")
def spLaw (K : PySem.W.Frag) : Sp := fun vs H Q _ => ∃ (a : Addr) (ns : List Int), vs = [.ref a] ∧ ns.length ≤ 63 ∧ SqL K H a (ns.map V.int) ∧ ∀ H', Q (.bl true) H'
theorem ok_law (T : Tp w K mg φ) : FnOk P w K mg base CX0 40 (He.ga K "law") (φ ("law", none)) P_law (spLaw K) := by
  have G_law_take := ok_law_take (P := P) (base := base) T
  have G_law_cell := ok_law_cell (P := P) (base := base) T
  have G_law_draws := ok_law_draws (P := P) (base := base) T
  have G_law_rule := ok_law_rule (P := P) (base := base) T
  have G_law_is_rule := ok_law_is_rule (P := P) (base := base) T
  have G_Tree___init__ := ok_Tree___init__ (P := P) (base := base) T
  have G_Tree_write := ok_Tree_write (P := P) (base := base) T
  have G_Tree_link := ok_Tree_link (P := P) (base := base) T
  have G_Tree_twin := ok_Tree_twin (P := P) (base := base) T
  have G_parse_book := ok_parse_book (P := P) (base := base) T
  refine okF T.F_law sc_law (fun vs H Q E h => ?_) (fun cdv A outer s H vs Q E hr h => ?_)
  · obtain ⟨a, ns, rfl, _⟩ := h
    rfl
  obtain ⟨sc, ns, rfl, hns, hsc, k⟩ := h
  have nd := sc_law.nd
  have hu := hu_of hr
  refine ⟨_, (pss_cons (ps_set (i := 1) nd rfl (Or.inl rfl) (pe_callB call_abs (by rfl) T.z_abs (by decide +kernel) (pa_cons (pe_call G_law_cell (hr.mono (by omega)) rfl T.g_law_cell T.k_law_cell T.b_law_cell .nil pass0 (pa_cons (pv 0) (pa_cons pe_int pa_nil))) pa_nil)))
    (pss_cons (ps_set (i := 2) nd rfl (Or.inl rfl) (pe_op op_cat (pe_lc (own := [("_law_cell_here", 18)]) (g := gName 18) rfl nd (pi_list (pe_slice sl_list (pv 0) (po_some pe_int) (po_some pe_int))) (blkOk_by (own := [("_law_cell_here", 18)]) (N := N_law) (sc := defScope s_law) (by decide +kernel)) (fun _ _ _ _ _ => pg_name (i := 18) nd rfl (Or.inl rfl)) (fun _ _ _ _ _ => pts_nil) (fun _ _ _ _ _ => (pe_op op_fdiv (pe_callB call_abs (by rfl) T.z_abs (by decide +kernel) (pa_cons (pe_callTy call_int1 (by rfl) T.z_int (by decide +kernel) (pa_cons (pv 18) pa_nil)) pa_nil)) pe_int))) (pe_call G_law_draws (hr.mono (by omega)) rfl T.g_law_draws T.k_law_draws T.b_law_draws .nil pass0 (pa_cons (pe_call G_law_cell (hr.mono (by omega)) rfl T.g_law_cell T.k_law_cell T.b_law_cell .nil pass0 (pa_cons (pv 0) (pa_cons pe_int pa_nil))) (pa_cons pe_int (pa_cons pe_int pa_nil))))))
    (pss_cons (ps_set (i := 3) nd rfl (Or.inl rfl) (pe_op op_add pe_int (pe_op op_mod (pv 1) pe_int)))
    (pss_cons (ps_set (i := 4) nd rfl (Or.inl rfl) (pe_slice sl_list (pe_lst (pa_cons pe_str (pa_cons pe_str (pa_cons pe_str (pa_cons pe_str pa_nil))))) po_none (po_some (pv 3))))
    (pss_cons (ps_set (i := 5) nd rfl (Or.inl rfl) (pe_lst (pa_cons pe_str (pa_cons pe_str (pa_cons pe_str (pa_cons pe_str pa_nil))))))
    (pss_cons (ps_set (i := 6) nd rfl (Or.inl rfl) (pe_lst (pa_cons (pe_lst pa_nil) (pa_cons (pe_lst pa_nil) (pa_cons (pe_lst pa_nil) (pa_cons (pe_lst pa_nil) pa_nil))))))
    (pss_cons (ps_set (i := 7) nd rfl (Or.inr rfl) pe_dnewK)
    (pss_cons (ps_for PassesOwn.never rfl (pi_range1 rfl T.z_range (pa_cons (pe_op op_add pe_int (pe_op op_mod (pe_op op_fdiv (pv 1) pe_int) pe_int)) pa_nil)) (pg_name (i := 8) nd rfl (Or.inr rfl)) 
      (pss_cons (ps_set (i := 9) nd rfl (Or.inl rfl) (pe_call G_law_take (hr.mono (by omega)) rfl T.g_law_take T.k_law_take T.b_law_take .nil pass0 (pa_cons (pv 2) (pa_cons (pv 3) pa_nil))))
      (pss_cons (ps_set (i := 10) nd rfl (Or.inl rfl) (pe_call G_law_rule (hr.mono (by omega)) rfl T.g_law_rule T.k_law_rule T.b_law_rule .nil pass0 (pa_cons (pv 2) (pa_cons (pv 8) pa_nil))))
      (pss_cons (ps_set (i := 11) nd rfl (Or.inl rfl) pe_str)
      (C8.pss_cut (ps_if (pt_cmpR op_eq (pe_call G_law_take (hr.mono (by omega)) rfl T.g_law_take T.k_law_take T.b_law_take .nil pass0 (pa_cons (pv 2) (pa_cons pe_int pa_nil))) pe_int (nomark _)) 
        (pss_cons (ps_dput hu (pv 7) (pe_op op_add_str pe_str (pe_callTy call_str_int (by rfl) T.z_str (by decide +kernel) (pa_cons (pv 8) pa_nil))) (pe_op op_add_str pe_str (pe_callTy call_str_int (by rfl) T.z_str (by decide +kernel) (pa_cons (pe_call G_law_take (hr.mono (by omega)) rfl T.g_law_take T.k_law_take T.b_law_take .nil pass0 (pa_cons (pv 2) (pa_cons pe_int pa_nil))) pa_nil))) rfl)
        (pss_one (ps_set (i := 11) nd rfl (Or.inl rfl) (pe_op op_add_str (pe1_op op_add_str (pe1_op op_add_str (pe1_op op_add_str pe1_C (CwR.PET.of (pe_callTy call_str_int (by rfl) T.z_str (by decide +kernel) (pa_cons (pv 8) pa_nil)))) (CwR.PET.of pe_str)) (CwR.pet_replC (pe_dget hu (pv 7) (pe_op op_add_str pe_str (pe_callTy call_str_int (by rfl) T.z_str (by decide +kernel) (pa_cons (pv 8) pa_nil))) (fun _ _ => rfl)) (by decide +kernel))).pe pe_str)))) pss_nil)
      (pss_one (ps_if (pt_cmpR op_lt (pe_op op_add (pe_op op_add (pe_callB call_len_str (by rfl) T.z_len (by decide +kernel) (pa_cons (pe_ix ix_list (pv 5) (pv 9) (fun _ _ => rfl)) pa_nil)) (pe_callB call_len_str (by rfl) T.z_len (by decide +kernel) (pa_cons (pv 11) pa_nil))) (pe_callB call_len_str (by rfl) T.z_len (by decide +kernel) (pa_cons (pe_ix ix_tup (pv 10) pe_int (fun _ _ => rfl)) pa_nil))) (pe_op op_sub pe_int (pe_op op_mul pe_int (pv 3))) (nomark _)) 
        (pss_cons (ps_asg (pe_op op_add_str (pe_op op_add_str (pe_op op_add_str (pe_ix ix_list (pv 5) (pv 9) (fun _ _ => rfl)) (pv 11)) (pe_ix ix_tup (pv 10) pe_int (fun _ _ => rfl))) pe_str) (pg_sub (pv 5) (pv 9) set_list))
        (pss_one (ps_expr (pe_bm PySem.F.plainAttrs_list PySem.F.slot_list_append PySem.F.type_list_append mt_append (pe_ix ix_list (pv 6) (pv 9) (fun _ _ => rfl)) (pa_cons (pe_ix ix_tup (pv 10) pe_int (fun _ _ => rfl)) pa_nil))))) 
        (pss_one (ps_if (pt_cmpR op_ne (pv 11) pe_str (nomark _)) 
          (pss_one (ps_set (i := 7) nd rfl (Or.inr rfl) (pe_callTy (call_dictP rfl) (by rfl) T.z_dict (by decide +kernel) (pa_cons (pe_lock (pe_lc (own := [("_law_name", 19)]) (g := gName 19) rfl nd (pi_keys (pv 7)) (blkOk_by (own := [("_law_name", 19)]) (N := N_law) (sc := defScope s_law) (by decide +kernel)) (fun _ _ _ _ _ => pg_name (i := 19) nd rfl (Or.inl rfl)) (fun _ _ _ _ _ => pts_one (pt_cmpR op_ne (pv 19) (pe_op op_add_str pe_str (pe_callTy call_str_int (by rfl) T.z_str (by decide +kernel) (pa_cons (pv 8) pa_nil))) (nomark _))) (fun _ _ _ _ _ => pe_tup (pa_cons (pv 19) (pa_cons (pe_dget hu (pv 7) (pv 19) (fun _ _ => rfl)) pa_nil))))) pa_nil)))) pss_nil)))))))))
    (pss_cons (ps_set (i := 12) nd rfl (Or.inl rfl) (pe_make0 T.mk_Tree G_Tree___init__ (hr.mono (by omega)) rfl T.g_Tree T.b_Tree___init__ .nil pass0))
    (pss_cons (ps_set (i := 13) nd rfl (Or.inl rfl) (pe_ix ix_list (pv 6) pe_int (fun _ _ => rfl)))
    (pss_cons (ps_set (i := 14) nd rfl (Or.inl rfl) (pe_lst (pa_cons pe_str pa_nil)))
    (pss_cons (ps_for PassesOwn.never rfl (pi_range2 rfl T.z_range (pa_cons pe_int (pa_cons (pv 3) pa_nil))) (pg_name (i := 8) nd rfl (Or.inr rfl)) 
      (pss_cons (ps_set (i := 15) nd rfl (Or.inl rfl) (pe_ix ix_list (pv 4) (pe_op op_add pe_int (pe_op op_mod (pe_op op_add (pv 8) (pe_op op_fdiv (pv 1) pe_int)) (pe_op op_sub (pv 3) pe_int))) (fun _ _ => rfl)))
      (pss_cons (ps_asg (pe_op op_add_str (pe_op op_add_str (pe_op op_add_str (pe_ix ix_list (pv 5) pe_int (fun _ _ => rfl)) pe_str) (pv 15)) pe_str) (pg_sub (pv 5) pe_int set_list))
      (pss_cons (ps_set (i := 13) nd rfl (Or.inl rfl) (pe_op op_cat (pv 13) (pe_ix ix_list (pv 6) (pe_bm PySem.F.plainAttrs_list PySem.F.slot_list_index PySem.F.type_list_index mt_index (pv 4) (pa_cons (pv 15) pa_nil)) (fun _ _ => rfl))))
      (pss_one (ps_expr (pe_bm PySem.F.plainAttrs_list PySem.F.slot_list_append PySem.F.type_list_append mt_append (pv 14) (pa_cons (pv 15) pa_nil))))))))
    (pss_cons (ps_for PassesOwn.never rfl (pi_range1 rfl T.z_range (pa_cons (pv 3) pa_nil)) (pg_name (i := 8) nd rfl (Or.inr rfl)) 
      (pss_one (ps_expr (pe_meth (pv 12) T.c_Tree T.m_Tree_write G_Tree_write (hr.mono (by omega)) T.b_Tree_write .nil pass0 (pa_cons (pe_ix ix_list (pv 4) (pv 8) (fun _ _ => rfl)) (pa_cons (pe_ix ix_list (pv 5) (pv 8) (fun _ _ => rfl)) (pa_cons pe_str pa_nil)))))))
    (C8.pss_cut (ps_if (pt_cmpR op_eq (pe_op op_mod (pe_op op_fdiv (pv 1) pe_int) pe_int) pe_int (nomark _)) 
      (pss_cons (ps_expr (pe_meth (pv 12) T.c_Tree T.m_Tree_write G_Tree_write (hr.mono (by omega)) T.b_Tree_write .nil pass0 (pa_cons pe_str (pa_cons (pe_ix ix_list (pv 5) pe_int (fun _ _ => rfl)) (pa_cons pe_str pa_nil)))))
      (pss_one (ps_expr (pe_meth (pv 12) T.c_Tree T.m_Tree_link G_Tree_link (hr.mono (by omega)) T.b_Tree_link .nil pass0 (pa_cons pe_str (pa_cons pe_str pa_nil)))))) pss_nil)
    (pss_cons (ps_set (i := 16) nd rfl (Or.inl rfl) (pe_meth0 (pv 12) T.c_Tree T.m_Tree_twin G_Tree_twin (hr.mono (by omega)) T.b_Tree_twin .nil pass0))
    (pss_cons (ps_set (i := 17) nd rfl (Or.inl rfl) (pe_call G_parse_book (hr.mono (by omega)) rfl T.g_parse_book T.k_parse_book T.b_parse_book .nil pass0 (pa_cons (pv 12) pa_nil)))
    (pss_cons (ps_if (PW.pt (pw_or (pt_not (pt_val (pe_callB (C8.call_isC T.iBook) (by rfl) T.z_isinstance (by decide +kernel) (pa_cons (pv 17) (pa_cons (pe_gref T.g_Book) pa_nil))))) (pw_or (pt_cmpR (op_ne_dictA hr.units0) (pe_fld (pv 17) rfl) (pv 7) (nomark _)) (pw_or (pt_cmpR (op_neD hr.units) (pe_fld (pv 17) rfl) (pv 14) (nomark _)) (pw_or1 (pt_cmpR op_ne (pe_callB call_len_seq (by rfl) T.z_len (by decide +kernel) (pa_cons (pe_fld (pv 17) rfl) pa_nil)) (pe_callB call_len_seq (by rfl) T.z_len (by decide +kernel) (pa_cons (pv 13) pa_nil)) (nomark _))))))) 
      (pss_one (ps_ret pe_bl)) pss_nil)
    (pss_cons (ps_for PassesOwn.never rfl (pi_range1 rfl T.z_range (pa_cons (pe_callB call_len_seq (by rfl) T.z_len (by decide +kernel) (pa_cons (pv 13) pa_nil)) pa_nil)) (pg_name (i := 8) nd rfl (Or.inr rfl)) 
      (pss_one (ps_if (pt_not (pt_val (pe_call G_law_is_rule (hr.mono (by omega)) rfl T.g_law_is_rule T.k_law_is_rule T.b_law_is_rule .nil pass0 (pa_cons (pe_ix ix_list (pe_fld (pv 17) rfl) (pv 8) (fun _ _ => rfl)) (pa_cons (pe_ix ix_list (pv 13) (pv 8) (fun _ _ => rfl)) pa_nil))))) 
        (pss_one (ps_ret pe_bl)) pss_nil)))
    (pss_one (ps_ret (pe_cmpR (op_eqV hr.units) (pe_fld (pv 12) rfl) (pe_fld (pv 16) rfl) (nomark _)))))))))))))))))))))), ?_⟩
  refine ⟨_, rfl, sc, ns, 0, rfl, hsc, fun c0 => ⟨_, rfl, ?_⟩⟩
  obtain ⟨F, hF⟩ : ∃ F : Nat, (if c0 < 0 then -c0 else c0) = (F : Int) := ⟨(if c0 < 0 then -c0 else c0).toNat, by split <;> omega⟩
  rw [hF]
  -- the numbers
  dsimp only [gName, L2.tSeq, tAsg, tOp]
  refine lc_lstv (K := K) (vs := [18]) (j := 18) (σ := [some (.ref sc), some (.int (F : Int)), none, none, none, none, none, none, none, none, none, none, none, none, none, none, none, none, none, none]) (xs := cutV (ns.map V.int) (some 2) (some 63)) halfV (fun R z => ?_) (by have := (cut_int (ns := ns) (lo := some 2) (hi := some 63)).2; omega) (fun _ => rfl) ?_ ?_
  · refine ⟨_, rfl, _, rfl, _, rfl, sc, _, rfl, hsc, fun p hp => z _ _ (same_new hp _) (SqL.of upd_same)⟩
  · intro v hv H2 Q2 s2 z
    obtain ⟨i, rfl⟩ := cut_int.1 v hv
    exact ⟨_, rfl, .inl ⟨_, rfl, _, rfl, _, _, rfl, rfl, ⟨by decide, by decide⟩, z H2 (Same.refl _)⟩⟩
  intro D H1 hD s1 hD1
  obtain ⟨ms, em, el, enn⟩ := half_ints (cut_int (ns := ns) (lo := some 2) (hi := some 63)).1
  have eml : ms.length ≤ 63 := by have := (cut_int (ns := ns) (lo := some 2) (hi := some 63)).2; omega
  rw [em] at hD1
  refine ⟨_, rfl, sc, ns, 1, rfl, s1.seq hsc, fun c1 => ⟨c1, 60, 5040, rfl, by decide, by decide, by decide, fun H2 l2 ns2 s2 hl20 hl2 hn2 hnn2 => ?_⟩⟩
  refine ⟨D, l2, _, _, rfl, rfl, s2 _ _ hD1, hl2, sz (by rw [List.length_map, List.length_map]; omega), fun ln hln => ?_⟩
  have hNum : NumL (upd H2 ln (.lst (ms.map V.int ++ ns2.map V.int))) ln := ⟨ms ++ ns2, by rw [upd_same, List.map_append], by rw [List.length_append]; omega, fun n hn => by
    rcases List.mem_append.mp hn with h | h
    · exact enn n h
    · exact hnn2 n h⟩
  generalize upd H2 ln (.lst (ms.map V.int ++ ns2.map V.int)) = H3 at hNum ⊢
  -- how many files
  refine ⟨_, rfl, _, _, rfl, rfl, (by show (0 : Int) < 4; decide), _, _, rfl, rfl, ?_⟩
  obtain ⟨cn, hcn⟩ : ∃ cn : Nat, 1 + (F : Int) % 4 = (cn : Int) := ⟨1 + F % 4, by omega⟩
  have cn1 : 1 ≤ cn := by omega
  have cn4 : cn ≤ 4 := by omega
  dsimp only
  rw [hcn]
  refine ⟨by show 4 ≤ sizeLine; decide, fun p4 hp4 => ?_⟩
  have t1 := same_new hp4 (.lst [.str "rules", .str "more", .str "a/b.c", .str "x_1"])
  refine ⟨_, rfl, _, rfl, p4, _, rfl, SqL.of upd_same, fun lf hlf => ?_⟩
  rw [fil_cut cn cn1 cn4] at *
  have t2 := same_new hlf (.lst (((List.range cn).map fN).map V.str))
  refine ⟨by show 4 ≤ sizeLine; decide, fun lt hlt => ?_⟩
  have t3 := same_new hlt (.lst [.str "", .str "", .str "", .str ""])
  refine ⟨Nat.zero_le _, fun r0 hr0 => ?_⟩
  have t4 := same_new hr0 (.lst [])
  refine ⟨Nat.zero_le _, fun r1 hr1 => ?_⟩
  have t5 := same_new hr1 (.lst [])
  refine ⟨Nat.zero_le _, fun r2 hr2 => ?_⟩
  have t6 := same_new hr2 (.lst [])
  refine ⟨Nat.zero_le _, fun r3 hr3 => ?_⟩
  have t7 := same_new hr3 (.lst [])
  refine ⟨by show 4 ≤ sizeLine; decide, fun lr hlr => ?_⟩
  have t8 := same_new hlr (.lst [.ref r0, .ref r1, .ref r2, .ref r3])
  intro sd hsd
  obtain ⟨hA, hG⟩ := start_GH (K := K) hNum hp4 hlf hlt hr0 hr1 hr2 hr3 hlr hsd
  have hP := start_GP (cn := cn) cn4
  have hS : (upd (upd (upd (upd (upd (upd (upd (upd (upd H3 p4 (.lst [.str "rules", .str "more", .str "a/b.c", .str "x_1"])) lf (.lst (((List.range cn).map fN).map V.str))) lt (.lst [.str "", .str "", .str "", .str ""])) r0 (.lst [])) r1 (.lst [])) r2 (.lst [])) r3 (.lst [])) lr (.lst [.ref r0, .ref r1, .ref r2, .ref r3])) sd (.dK [])) sd = some (.dK (([] : List (Str × Str)).map setE)) := upd_same
  show tFor _ _ _ _ _ (upd (upd (upd (upd (upd (upd (upd (upd (upd H3 p4 (.lst [.str "rules", .str "more", .str "a/b.c", .str "x_1"])) lf (.lst (((List.range cn).map fN).map V.str))) lt (.lst [.str "", .str "", .str "", .str ""])) r0 (.lst [])) r1 (.lst [])) r2 (.lst [])) r3 (.lst [])) lr (.lst [.ref r0, .ref r1, .ref r2, .ref r3])) sd (.dK []))
  generalize upd (upd (upd (upd (upd (upd (upd (upd (upd H3 p4 (.lst [.str "rules", .str "more", .str "a/b.c", .str "x_1"])) lf (.lst (((List.range cn).map fN).map V.str))) lt (.lst [.str "", .str "", .str "", .str ""])) r0 (.lst [])) r1 (.lst [])) r2 (.lst [])) r3 (.lst [])) lr (.lst [.ref r0, .ref r1, .ref r2, .ref r3])) sd (.dK []) = HA at hG hS ⊢
  -- the rules are drawn
  obtain ⟨N, hN10, hNe⟩ : ∃ N : Nat, N ≤ 10 ∧ 1 + (F : Int) / 4 % 10 = (N : Int) := ⟨1 + F / 4 % 10, by omega, by omega⟩
  refine ⟨_, rfl, _, _, rfl, rfl, ⟨by decide, by decide⟩, _, _, rfl, rfl, (by show (0 : Int) < 10; decide), _, _, rfl, rfl, _, rfl, by omega, by omega, ?_⟩
  generalize hAe : (⟨ln, lt, lr, lf, raS r0 r1 r2 r3⟩ : AD) = A at hA hG
  have a1 : ln = A.ln := by rw [← hAe]
  have a2 : lt = A.lt := by rw [← hAe]
  have a3 : lr = A.lr := by rw [← hAe]
  have a4 : lf = A.lf := by rw [← hAe]
  have eN : (1 + (F : Int) / 4 % 10).toNat = N := by omega
  rw [eN]
  refine for_range (n := N) (fun i σ H' => ∃ (fIt : Nat → List It) (tx : Nat → Str) (ss : List (Str × Str)) (sd' : Addr) (v8 v9 v10 v11 : Option V), σ = pre8 sc F cn A sd' ++ [v8, v9, v10, v11, none, none, none, none, none, none, none, none] ∧ GH K H' A cn fIt tx ∧ GP cn fIt tx i ∧ H' sd' = some (.dK (ss.map setE)) ∧ ss.Perm (((List.range cn).flatMap fIt).filterMap setP))
    ⟨fun _ => [], fun _ => "", [], sd, none, none, none, none, by rw [a1, a2, a3, a4]; rfl, hG, hP, hS, ?_⟩ ?_ ?_
  · have hf : (List.range cn).flatMap (fun _ => ([] : List It)) = [] := by
      induction (List.range cn) with
      | nil => rfl
      | cons a l ih => rw [List.flatMap_cons, ih] <;> rfl
    rw [hf]
    exact List.Perm.refl _
  · rintro i σ H' hi ⟨fIt, tx, ss, sd', v8, v9, v10, v11, rfl, hG, hP, hS, hPm⟩
    have hi10 : i < 10 := by omega
    have e0i : (0 : Int) + (i : Nat) = (i : Nat) := by omega
    rw [e0i]
    have hlogi : ((i : Nat) : Int).natAbs.log2 < 1920 := by
      have h1 : ((i : Nat) : Int).natAbs = i := rfl
      rw [h1]
      have := Nat.log2_le_self i
      omega
    refine ⟨_, rfl, _, rfl, A.ln, cn, rfl, by omega, hG.num, fun H1 wi hB1 hN1 w0 w1 => ?_⟩
    obtain ⟨wn, rfl⟩ : ∃ wn : Nat, wi = (wn : Nat) := ⟨wi.toNat, by omega⟩
    have hwc : wn < cn := by omega
    have hw4 : wn < 4 := by omega
    have hG1 := hG.but hA hB1 hN1
    have nds : sd' ≠ A.ln := by
      obtain ⟨ns, hns, _⟩ := hG.num
      exact ne_of hS hns (by intro z; cases z)
    have hS1 := hB1 _ _ hS nds
    refine ⟨_, rfl, _, rfl, A.ln, i, rfl, hi10, hN1, fun H2 q vd rd txt zs hB2 hN2 hq hD hR htx htl => ?_⟩
    have hG2 := hG1.but hA hB2 hN2
    have hS2 := hB2 _ _ hS1 nds
    have hfr := fresh_ss hP hPm hi10
    have hnT : (numT i).length ≤ 1 := (setF ⟨i, hi10⟩).2.2.2.1
    refine ⟨MidS K A cn fIt tx ss i q sd' vd txt rd (fun x => pre8 sc F cn A sd' ++ [some (.int (i : Nat)), some (.int (wn : Nat)), some (.ref q), some x, none, none, none, none, none, none, none, none]), ?_, ?_⟩
    · refine ⟨_, rfl, A.ln, 3, rfl, by decide, hN2, fun H3 i3 hB3 hN3 _ _ => ⟨rfl, _, rfl, ?_⟩⟩
      have hG3 := hG2.but hA hB3 hN3
      have hS3 := hB3 _ _ hS2 nds
      have f3 := hB3.fk hN2.nt
      have ki3 : KI H2 H3 := by
        obtain ⟨ns, hns, _⟩ := hN2
        exact but_ki hB3 hns
      refine it2 (fun _ => ?_) fun _ => ?_
      · -- a setting
        refine ⟨_, rfl, A.ln, 9, rfl, by decide, hN3, fun H4 di hB4 hN4 d0 d1 => ?_⟩
        obtain ⟨dn, rfl⟩ : ∃ dn : Nat, di = (dn : Nat) := ⟨di.toNat, by omega⟩
        have hd9 : dn < 9 := by omega
        have hG4 := hG3.but hA hB4 hN4
        have hS4 := hB4 _ _ hS3 nds
        have ki4 : KI H3 H4 := by
          obtain ⟨ns, hns, _⟩ := hN3
          exact but_ki hB4 hns
        have hlogd : ((dn : Nat) : Int).natAbs.log2 < 1920 := by
          have h1 : ((dn : Nat) : Int).natAbs = dn := rfl
          rw [h1]
          have := Nat.log2_le_self dn
          omega
        obtain ⟨sg1, sg2, sg3, sg4, sg5⟩ := setG ⟨dn, hd9⟩
        have lp : ("v\n" : Str).length = 2 ∧ ("s" : Str).length = 1 ∧ ("set s" : Str).length = 5 ∧ ("  \"" : Str).length = 3 ∧ ("\"\n # note\n" : Str).length = 10 := by decide +kernel
        have hvl : (setV dn).length ≤ 5 := sg5
        have hel : (setE1 dn).length ≤ 5 := sg4
        have hvl2 : (setV dn).length = ("v\n" : Str).length + (numT dn).length := len_app _ _
        have hsl := ss_len hP hPm
        refine ⟨_, rfl, hlogd, _, _, rfl, rfl, sz (by show ("v\n" : Str).length + (numT dn).length ≤ 100000; omega), _, rfl, _, rfl, _, rfl, hlogi, _, _, rfl, rfl, sz (by show ("s" : Str).length + (numT i).length ≤ 100000; omega), sd', _, rfl, DPut.k (k := Sum.inr (setN i)) hS4 (szl (by rw [List.length_map]; omega)), ?_⟩
        have e4 := setE_put (v := setV dn) hfr
        have hB5 : But sd' H4 (upd H4 sd' (.dK (putK (ss.map setE) (Sum.inr (setN i)) (.str (setV dn))))) := But.upd _
        have hS5 : (upd H4 sd' (.dK (putK (ss.map setE) (Sum.inr (setN i)) (.str (setV dn))))) sd' = some (.dK ((ss ++ sgl i (some dn)).map setE)) := by
          rw [upd_same, e4] <;> rfl
        have hG5 := hG4.butd hS4 hB5
        have ki5 : KI H4 (upd H4 sd' (.dK (putK (ss.map setE) (Sum.inr (setN i)) (.str (setV dn))))) := but_kid hB5 hS4
        generalize upd H4 sd' (.dK (putK (ss.map setE) (Sum.inr (setN i)) (.str (setV dn)))) = H5 at hS5 hG5 ki5
        have hgt : valV ((ss ++ sgl i (some dn)).map setE) (Sum.inr (setN i) : Key) = some (.str (setV dn)) := by
          refine setE_get (ss := ss ++ [(setN i, setV dn)]) ?_ (setN i, setV dn) (by simp)
          rw [List.map_append]
          exact nd_snoc (ss_nd hP hPm) hfr
        refine ⟨_, rfl, _, rfl, hlogi, _, _, rfl, rfl, sz (by show ("set s" : Str).length + (numT i).length ≤ 100000; omega), _, _, rfl, rfl, sz (by simp only [len_app]; show ("set s" : Str).length + (numT i).length + ("  \"" : Str).length ≤ 100000; omega), _, rfl, _, rfl, _, rfl, hlogi, _, _, rfl, rfl, sz (by show ("s" : Str).length + (numT i).length ≤ 100000; omega), sd', _, rfl, .inl ⟨_, Sum.inr (setN i), .inl hS5, rfl, hgt.symm⟩, setV dn, rfl, ?_, _, _, rfl, rfl, sz ?_, _, _, rfl, rfl, sz ?_, ?_⟩
        · show (setV dn).length + ((setV dn).length + 1) * 2 ≤ 16777216
          omega
        · simp only [len_app]
          show ("set s" : Str).length + (numT i).length + ("  \"" : Str).length + (setE1 dn).length ≤ 100000
          omega
        · simp only [len_app]
          show ("set s" : Str).length + (numT i).length + ("  \"" : Str).length + (setE1 dn).length + ("\"\n # note\n" : Str).length ≤ 100000
          omega
        · refine ⟨some dn, ("set s" : Str) ++ numT i ++ ("  \"" : Str) ++ setE1 dn ++ ("\"\n # note\n" : Str), rfl, fun d h => ?_, hG5, ki5 _ _ (ki4 _ _ (ki3 _ _ hq trivial) trivial) trivial, ((hD.ki ki3).ki ki4).ki ki5, hS5, line_tl i dn, ?_, fun h => (nomatch h), fun _ h => ?_⟩
          · have e : dn = d := Option.some.inj h
            omega
          · simp only [len_app]
            show ("set s" : Str).length + (numT i).length + ("  \"" : Str).length + (setE1 dn).length + ("\"\n # note\n" : Str).length ≤ 40
            omega
          · have h2 : (("set s" : Str) ++ numT i ++ ("  \"" : Str) ++ setE1 dn ++ ("\"\n # note\n" : Str)).length = 0 := by rw [h]; decide
            simp only [len_app] at h2
            omega
      · exact ⟨none, "", rfl, fun d h => (nomatch h), hG3, ki3 _ _ hq trivial, hD.ki ki3, by rw [hS3]; show _ = some (HO.dK ((ss ++ []).map setE)); rw [List.append_nil], (by show tl ("" : Str) = []; decide +kernel), by decide, fun _ => rfl, fun h => absurd rfl h⟩
    · rintro σ' H3 ⟨so, line, rfl, hs9, hG3, hq3, hD3, hS3, hlt, hll, hl0, hl1⟩
      have hat : atI (tl4 fun x => V.str (tx x)) (wn : Int) = some (.str (tx wn)) := atI_nat (tl4_get _ hw4)
      have hatr : atI (tl4 fun x => V.ref (A.ra x)) (wn : Int) = some (.ref (A.ra wn)) := atI_nat (tl4_get _ hw4)
      have htw := hP.tle wn hw4
      refine ⟨_, rfl, _, rfl, A.lt, _, _, _, rfl, rfl, SqL.of hG3.txt, hat, _, rfl, sz (by omega), _, rfl, _, rfl, sz (by omega), _, _, rfl, rfl, _, rfl, q, _, _, _, rfl, rfl, .inl (.inl hq3), rfl, _, rfl, sz (by omega), _, _, rfl, rfl, _, rfl, _, _, rfl, rfl, .inl ⟨by decide, by decide⟩, _, _, rfl, rfl, _, _, rfl, rfl, _, rfl, it2 (fun hlt2 => ?_) fun _ => ?_⟩
      · -- the rule is taken
        have hsum := of_decide_eq_true hlt2
        have l1 : ("\n" : Str).length = 1 := by decide +kernel
        refine ⟨_, rfl, _, rfl, A.lt, _, _, _, rfl, rfl, SqL.of hG3.txt, hat, _, rfl, _, _, rfl, rfl, sz (by omega), _, rfl, q, _, _, _, rfl, rfl, .inl (.inl hq3), rfl, _, _, rfl, rfl, sz (by simp only [len_app]; omega), _, _, rfl, rfl, sz (by simp only [len_app]; omega), ?_⟩
        have hixn : ixN (tl4 fun x => V.str (tx x)).length (wn : Int) = some wn := by
          unfold ixN
          rw [if_pos (by omega), if_pos (by show (wn : Int) < ((4 : Nat) : Int); omega)] <;> rfl
        refine ⟨_, rfl, _, rfl, A.lt, _, _, wn, rfl, rfl, hG3.txt, hixn, ?_⟩
        obtain ⟨pat, no, bl, c, m1, m2, m3, m4, m5, m6, m7, m8⟩ := hR.ex
        have hItOk : ItOk ⟨i, so, rd, zs, bl⟩ := ⟨hi10, hs9, pat, no, c, m1, m2, m3, m4, m5, m6, m7, m8⟩
        have e10 : tl ("\n" : Str) = [10] := by decide +kernel
        have hzt : tl (tx wn ++ line ++ txt ++ ("\n" : Str)) = tl (tx wn) ++ lnT (itZ ⟨i, so, rd, zs, bl⟩) := by
          have e5 : itZ ⟨i, so, rd, zs, bl⟩ = setZ' i so ++ zs := rfl
          rw [tl_append, tl_append, tl_append, e10, e5, lnT_app, hlt, ← htx]
          simp
        have hzl : (tx wn ++ line ++ txt ++ ("\n" : Str)).length ≤ 398 - 20 * cn := by
          simp only [len_app]
          omega
        have hG4 := hG3.setT hA hw4 (tx wn ++ line ++ txt ++ ("\n" : Str))
        have ki4 : KI H3 (upd H3 A.lt (.lst ((tl4 fun x => V.str (tx x)).set wn (.str (tx wn ++ line ++ txt ++ ("\n" : Str)))))) := but_ki (But.upd _) hG3.txt
        have hS4 : (upd H3 A.lt (.lst ((tl4 fun x => V.str (tx x)).set wn (.str (tx wn ++ line ++ txt ++ ("\n" : Str)))))) sd' = some (.dK ((ss ++ sgl i so).map setE)) := by
          rw [upd_ne (ne_of hS3 hG3.txt (by intro z; cases z))]
          exact hS3
        generalize upd H3 A.lt (.lst ((tl4 fun x => V.str (tx x)).set wn (.str (tx wn ++ line ++ txt ++ ("\n" : Str))))) = H4 at hG4 ki4 hS4 ⊢
        obtain ⟨vsw, hvw, hdw⟩ := hG4.rus wn hw4
        have hlv : vsw.length < sizeLine := by
          rw [hdw.len, List.length_map]
          have h5 := hP.len
          have h6 : (fIt wn).length ≤ ((List.range cn).flatMap fIt).length := by
            have : (fIt wn).Sublist ((List.range cn).flatMap fIt) := List.sublist_flatten_of_mem (List.mem_map.mpr ⟨wn, List.mem_range.mpr hwc, rfl⟩)
            exact this.length_le
          exact szl (by omega)
        refine ⟨_, rfl, _, rfl, A.lr, _, _, _, rfl, rfl, SqL.of hG4.rul, hatr, .inl ⟨rfl, _, SqL.of hvw⟩, _, rfl, q, _, _, _, rfl, rfl, .inl (.inl (ki4 _ _ hq3 trivial)), rfl, A.ra wn, _, _, rfl, rfl, hvw, hlv, ?_⟩
        have hG5 := hG4.addR hA hw4 (e := ⟨i, so, rd, zs, bl⟩) hvw hdw (hD3.ki ki4)
        obtain ⟨hP5, hp5⟩ := hP.add hwc cn4 hItOk rfl hzt hzl
        refine ⟨_, _, ss ++ sgl i so, sd', _, _, _, _, rfl, hG5, hP5, by rw [upd_ne (ne_of hS4 hvw (by intro z; cases z))]; exact hS4, ?_⟩
        refine List.Perm.trans ?_ (hp5.filterMap setP).symm
        rw [List.filterMap_append]
        have e6 : [(⟨i, so, rd, zs, bl⟩ : It)].filterMap setP = sgl i so := by
          cases so <;> rfl
        rw [e6]
        exact List.Perm.append_right _ hPm
      · -- it is not
        refine ⟨_, rfl, rfl, _, rfl, ?_⟩
        cases so with
        | none =>
          have hle := hl0 rfl
          subst hle
          refine itF (nb (decide_eq_true rfl)) ?_
          rw [show ss ++ sgl i none = ss from List.append_nil ss] at hS3
          exact ⟨fIt, tx, ss, sd', _, _, _, _, rfl, hG3, hP.mono, hS3, hPm⟩
        | some dn =>
          refine itT (nb' (decide_eq_false fun z => hl1 (by simp) (V.str.inj z))) ?_
          rw [show ss ++ sgl i (some dn) = ss ++ [(setN i, setV dn)] from rfl] at hS3
          have hnd1 : ((ss ++ [(setN i, setV dn)]).map (·.1)).Nodup := by
            rw [List.map_append]
            exact nd_snoc (ss_nd hP hPm) hfr
          have hfil := ss_filter (v := setV dn) hfr
          have hsl := ss_len hP hPm
          generalize hs1 : ss ++ [(setN i, setV dn)] = s1 at hS3 hnd1 hfil
          have hsl1 : s1.length ≤ 100 := by rw [← hs1, List.length_append, List.length_singleton]; omega
          refine ⟨sd', _, hS3, trivial, fun od => ?_⟩
          refine ⟨_, rfl, sd', od, rfl, .inl ⟨_, upd_same, fun D hD => ?_⟩⟩
          have nDd : D ≠ sd' := fun e => by rw [e, upd_same] at hD; cases hD
          have hD3 : H3 D = none := by rwa [upd_ne nDd] at hD
          refine lc_it walk_keys (fun j H' => Same (upd H3 sd' (.frz od (.dK (s1.map setE)))) H' ∧ ∃ (ps : List Addr), H' D = some (.lst (ps.map V.ref)) ∧ PrAt H' ps ((s1.take j).filter fun p => !decide (p.1 = setN i))) ⟨same_new hD _, [], upd_same, trivial⟩ (fun j H' _ h => h.1 _ _ upd_same) ?_ ?_
          · rintro j x H5 H6 hj ⟨s5, ps, hps, hpr⟩ ⟨rfl, kk, vv, hk, rfl⟩
            obtain ⟨p, hp, e1⟩ : ∃ p, s1[j]? = some p ∧ setE p = (kk, vv) := by
              rw [List.getElem?_map] at hk
              cases hz : s1[j]? with
              | none => rw [hz] at hk; cases hk
              | some p => rw [hz] at hk; exact ⟨p, rfl, Option.some.inj hk⟩
            have ek : kk = (Sum.inr p.1 : Key) := (congrArg Prod.fst e1).symm
            have ev : vv = V.str p.2 := (congrArg Prod.snd e1).symm
            subst ek ev
            have hj' : j < s1.length := by rw [List.length_map] at hj; exact hj
            have htk : s1.take (j + 1) = s1.take j ++ [p] := by rw [List.take_add_one, hp]; rfl
            have hmem : p ∈ s1 := List.mem_of_getElem? hp
            have hpl : ps.length ≤ j := by
              have h1 := hpr.len
              have h2 := List.length_filter_le (fun p : Str × Str => !decide (p.1 = setN i)) (s1.take j)
              rw [List.length_take] at h2
              omega
            refine ⟨rfl, ?_⟩
            have ls1 : ("s" : Str).length = 1 := by decide +kernel
            refine ⟨_, rfl, _, rfl, _, rfl, hlogi, _, _, rfl, rfl, sz (by show ("s" : Str).length + (numT i).length ≤ 100000; omega), rfl, _, rfl, it2 (fun hne => ?_) fun heq => ?_⟩
            · have hne' : (!decide (V.str p.1 = V.str (setN i))) = true := hne
              have hpn : p.1 ≠ setN i := fun z => by
                rw [show (!decide (V.str p.1 = V.str (setN i))) = false from nb (decide_eq_true (by rw [z]))] at hne'
                cases hne'
              refine ⟨_, rfl, _, rfl, _, rfl, sd', _, rfl, .inl ⟨_, Sum.inr p.1, .inr ⟨od, s5 _ _ upd_same⟩, rfl, (setE_get hnd1 p hmem).symm⟩, by show 2 ≤ sizeLine; decide, fun pn hpn0 => ?_⟩
              have s6 := same_new hpn0 (.tup [.str p.1, .str p.2])
              refine ⟨ps.map V.ref, s6 _ _ hps, szl (by rw [List.length_map]; omega), Same.mut (s5.trans s6) hD, ps ++ [pn], by rw [upd_same, List.map_append] <;> rfl, ?_⟩
              rw [htk, List.filter_append]
              have e2 : [p].filter (fun p => !decide (p.1 = setN i)) = [p] := by
                rw [List.filter_cons, decide_eq_false hpn]
                rfl
              rw [e2]
              have kp : ∀ c xs, (upd H6 pn (.tup [.str p.1, .str p.2])) c = some (HO.tup xs) → (upd (upd H6 pn (.tup [.str p.1, .str p.2])) D (.lst (ps.map V.ref ++ [.ref pn]))) c = some (HO.tup xs) := fun c xs h => by
                rw [upd_ne (ne_of h (s6 _ _ hps) (by intro z; cases z))]
                exact h
              exact (hpr.keep (FK.same s6).t |>.snoc upd_same).keep kp
            · have heq' : (!decide (V.str p.1 = V.str (setN i))) = false := heq
              have hpn : p.1 = setN i := by
                have h2 : decide (V.str p.1 = V.str (setN i)) = true := by
                  cases hz : decide (V.str p.1 = V.str (setN i)) with
                  | true => rfl
                  | false =>
                    rw [show (!decide (V.str p.1 = V.str (setN i))) = true from nb' hz] at heq'
                    cases heq'
                exact V.str.inj (of_decide_eq_true h2)
              refine ⟨s5, ps, hps, ?_⟩
              rw [htk, List.filter_append]
              have e2 : [p].filter (fun p => !decide (p.1 = setN i)) = [] := by
                rw [List.filter_cons, decide_eq_true hpn]
                rfl
              rw [e2, List.append_nil]
              exact hpr
          · rintro H5 ⟨s5, ps, hps, hpr⟩
            rw [List.length_map, List.take_length, hfil] at hpr
            have hd5 : H5 sd' = some (.frz od (.dK (s1.map setE))) := s5 _ _ upd_same
            refine ⟨hd5, ?_⟩
            have sm : Same H3 (upd H5 sd' (.dK (s1.map setE))) := fun c o e => by
              by_cases z : c = sd'
              · subst z
                rw [upd_same, ← e, hS3]
              · rw [upd_ne z]
                exact s5 _ _ (by rw [upd_ne z]; exact e)
            have kp : ∀ c xs, H5 c = some (HO.tup xs) → (upd H5 sd' (.dK (s1.map setE))) c = some (HO.tup xs) := fun c xs h => by
              rw [upd_ne (ne_of h hd5 (by intro z; cases z))]
              exact h
            have hps2 : (upd H5 sd' (.dK (s1.map setE))) D = some (.lst (ps.map V.ref)) := by rw [upd_ne nDd]; exact hps
            refine ⟨D, ps, ss.map setE, rfl, SqL.of hps2, (hpr.keep kp).paired, fun sd2 hsd2 => ?_⟩
            rw [mergeK_nd (by rw [List.nil_append]; exact setE_nd (ss_nd hP hPm)), List.nil_append]
            have s7 := same_new hsd2 (.dK (ss.map setE))
            exact ⟨fIt, tx, ss, sd2, _, _, _, _, rfl, hG3.same (sm.trans s7), hP.mono, upd_same, hPm⟩
  rintro σ HB ⟨fIt, tx, ss, sd', v8, v9, v10, v11, rfl, hG, hP, hS, hPm⟩
  obtain ⟨c, hc⟩ : ∃ c : Nat, (F : Int) / 40 = (c : Int) := ⟨F / 40, by omega⟩
  -- the tree
  intro tr tx0 ntr ntx net
  refine ⟨tr, tx0, rfl, upd_same, fun H1 d hd0 hT hB1 => ⟨rfl, ?_⟩⟩
  have s1 : Same HB H1 := made_keep ntr ntx fun c o h hc => hB1 _ _ h hc
  have hG1 := hG.same s1
  have hS1 := s1 _ _ hS
  have hat0 : atI (tl4 fun x => V.ref (A.ra x)) 0 = some (.ref (A.ra 0)) := rfl
  refine ⟨_, rfl, A.lr, _, _, _, rfl, rfl, SqL.of hG1.rul, hat0, ?_⟩
  refine ⟨by show 1 ≤ sizeLine; decide, fun lo hlo => ?_⟩
  have s2 := same_new hlo (.lst [.str "rules"])
  have hG2 := hG1.same s2
  have hS2 := s2 _ _ hS1
  have hT2 := hT.same s2
  have nlo1 : lo ≠ A.lt := (ne_of_none hG1.txt hlo).symm
  have nlo2 : lo ≠ A.lr := (ne_of_none hG1.rul hlo).symm
  have nlo3 : lo ≠ A.lf := (ne_of_none hG1.fil hlo).symm
  have nlo4 : ∀ w < 4, A.ra w ≠ lo := fun w hw => by
    obtain ⟨vs, h1, _⟩ := hG1.rus w hw
    exact ne_of_none h1 hlo
  have hlo2 : (upd H1 lo (.lst [.str "rules"])) lo = some (.lst [.str "rules"]) := upd_same
  generalize upd H1 lo (.lst [.str "rules"]) = H2 at s2 hG2 hS2 hT2 hlo2 ⊢
  refine ⟨_, rfl, _, _, rfl, ⟨by decide, by decide, by omega, by omega⟩, ?_⟩
  have ecn : ((cn : Int) - 1).toNat = cn - 1 := by omega
  rw [ecn]
  have hT0 := hP.tln 0 (by decide)
  have hL0 := hP.tle 0 (by decide)
  refine for_range (n := cn - 1) (fun i σ H' => ∃ (t0 : Str) (du : Addr) (vs : List V) (v8' v15 : Option V), σ = pre8 sc F cn A sd' ++ [v8', v9, v10, v11, some (.ref tr), some (.ref du), some (.ref lo), v15, none, none, none, none] ∧ But2 A.lt lo H2 H' ∧ H' A.lt = some (.lst [.str t0, .str (tx 1), .str (tx 2), .str (tx 3)]) ∧
      tl t0 = lnT ((fIt 0).flatMap itZ ++ (wsL cn c i).map fun n => useZ (fN n)) ∧ t0.length ≤ 398 - 20 * cn + 11 * i ∧ H' du = some (.lst vs) ∧ DuesAt K H' vs (((0 :: wsL cn c i).flatMap fIt).map (·.rd)) ∧ H' lo = some (.lst (((0 :: wsL cn c i).map fN).map V.str)) ∧ du ≠ A.lt ∧ du ≠ lo) ?_ ?_ ?_
  · obtain ⟨vs0, hv0, hd0'⟩ := hG2.rus 0 (by decide)
    refine ⟨tx 0, A.ra 0, vs0, v8, none, rfl, fun c o h _ _ => h, hG2.txt, ?_, by omega, hv0, ?_, hlo2, hA.n7 0 (by decide), nlo4 0 (by decide)⟩
    · rw [hT0]
      show _ = lnT ((fIt 0).flatMap itZ ++ [])
      rw [List.append_nil]
    · show DuesAt K H2 vs0 (((fIt 0) ++ []).map It.rd)
      rw [List.append_nil]
      exact hd0'
  · rintro i σ H' hi ⟨t0, du, vs, v8', v15, rfl, hB, hlt, ht0, hl0, hdu, hds, hlo', n1, n2⟩
    obtain ⟨w, hw⟩ : ∃ w : Nat, w = 1 + (i + 1 + c) % (cn - 1) := ⟨_, rfl⟩
    have hmod : (i + 1 + c) % (cn - 1) < cn - 1 := Nat.mod_lt _ (by omega)
    have hwc : w < cn := by omega
    have hw4 : w < 4 := by omega
    have hw1 : 1 ≤ w := by omega
    have ewi : (1 : Int) + ((1 + (i : Nat)) + (F : Int) / 40) % ((cn : Int) - 1) = (w : Int) := by
      rw [hc, hw]
      rcases (by omega : cn = 2 ∨ cn = 3 ∨ cn = 4) with h | h | h <;> rw [h] <;> omega
    have hfil : H' A.lf = some (.lst (((List.range cn).map fN).map V.str)) := hB _ _ hG2.fil hA.n5 nlo3.symm
    have hrul : H' A.lr = some (.lst (tl4 fun x => V.ref (A.ra x))) := hB _ _ hG2.rul hA.n4 nlo2.symm
    have hgf : (((List.range cn).map fN).map V.str)[w]? = some (.str (fN w)) := by
      rw [List.getElem?_map, List.getElem?_map, List.getElem?_range hwc] <;> rfl
    have hatf : atI (((List.range cn).map fN).map V.str) (w : Int) = some (.str (fN w)) := atI_nat hgf
    have hatr : atI (tl4 fun x => V.ref (A.ra x)) (w : Int) = some (.ref (A.ra w)) := atI_nat (tl4_get _ hw4)
    obtain ⟨u1, u2, u3, u4, u5, u6⟩ := useF ⟨w, hw4⟩
    refine ⟨_, rfl, _, rfl, _, rfl, _, _, rfl, rfl, ⟨by decide, by decide⟩, _, _, rfl, rfl, _, rfl, _, _, rfl, rfl, _, _, rfl, rfl, (by show (0 : Int) < (cn : Int) - 1; omega), _, _, rfl, rfl, A.lf, _, _, _, rfl, rfl, SqL.of hfil, (by rw [ewi]; exact hatf), ?_⟩
    -- the line
    have l1 : ("use " : Str).length = 4 ∧ (" \n" : Str).length = 2 := by decide +kernel
    have lw : (fN w).length ≤ 12 := (wd_of u3).len
    have lw2 : ("use " : Str).length + (fN w).length + (" " : Str).length ≤ 10 := by
      have h5 := u5
      rw [len_app, len_app] at h5
      exact h5
    have l3 : (" " : Str).length = 1 := by decide +kernel
    have hi3 : i ≤ 3 := by omega
    refine ⟨_, rfl, A.lt, _, _, _, rfl, rfl, SqL.of hlt, atI_nat (j := 0) rfl, _, _, rfl, rfl, sz (by omega), _, rfl, _, _, rfl, rfl, sz (by simp only [len_app]; omega), _, _, rfl, rfl, sz (by simp only [len_app]; omega), ?_⟩
    refine ⟨_, rfl, A.lt, _, _, 0, rfl, rfl, hlt, rfl, ?_⟩
    have b1 : But2 A.lt lo H' (upd H' A.lt (.lst [.str (t0 ++ ("use " : Str) ++ fN w ++ (" \n" : Str)), .str (tx 1), .str (tx 2), .str (tx 3)])) := fun c o h h1 _ => by rw [upd_ne h1]; exact h
    have ki1 : KI H' (upd H' A.lt (.lst [.str (t0 ++ ("use " : Str) ++ fN w ++ (" \n" : Str)), .str (tx 1), .str (tx 2), .str (tx 3)])) := but_ki (But.upd _) hlt
    have hlt3 : (upd H' A.lt (.lst [.str (t0 ++ ("use " : Str) ++ fN w ++ (" \n" : Str)), .str (tx 1), .str (tx 2), .str (tx 3)])) A.lt = some (.lst [.str (t0 ++ ("use " : Str) ++ fN w ++ (" \n" : Str)), .str (tx 1), .str (tx 2), .str (tx 3)]) := upd_same
    have hdu3 : (upd H' A.lt (.lst [.str (t0 ++ ("use " : Str) ++ fN w ++ (" \n" : Str)), .str (tx 1), .str (tx 2), .str (tx 3)])) du = some (.lst vs) := by rw [upd_ne n1]; exact hdu
    have hlo3 : (upd H' A.lt (.lst [.str (t0 ++ ("use " : Str) ++ fN w ++ (" \n" : Str)), .str (tx 1), .str (tx 2), .str (tx 3)])) lo = some (.lst (((0 :: wsL cn c i).map fN).map V.str)) := by rw [upd_ne nlo1]; exact hlo'
    show L2.tSeq _ _ _ _ (upd H' A.lt (.lst [.str (t0 ++ ("use " : Str) ++ fN w ++ (" \n" : Str)), .str (tx 1), .str (tx 2), .str (tx 3)]))
    generalize upd H' A.lt (.lst [.str (t0 ++ ("use " : Str) ++ fN w ++ (" \n" : Str)), .str (tx 1), .str (tx 2), .str (tx 3)]) = H3 at b1 ki1 hlt3 hdu3 hlo3 ⊢
    have b3 : But2 A.lt lo H2 H3 := hB.trans b1
    have hfil3 : H3 A.lf = some (.lst (((List.range cn).map fN).map V.str)) := b1 _ _ hfil hA.n5 nlo3.symm
    have hrul3 : H3 A.lr = some (.lst (tl4 fun x => V.ref (A.ra x))) := b1 _ _ hrul hA.n4 nlo2.symm
    obtain ⟨vw, hvw, hdw⟩ := hG2.rus w hw4
    have hvw3 : H3 (A.ra w) = some (.lst vw) := b3 _ _ hvw (hA.n7 w hw4) (nlo4 w hw4)
    have ki3 : KI H2 H3 := fun c0 o0 h0 n0 => b3 _ _ h0 (fun e => by rw [e, hG2.txt] at h0; cases h0; exact n0) fun e => by rw [e, hlo2] at h0; cases h0; exact n0
    have hflat : ((List.range cn).map fN).map V.str = (((List.range cn).map fN).map V.str) := rfl
    have hdl := hds.len
    have hdwl := hdw.len
    have hsub : ∀ v, v < cn → (fIt v).length ≤ ((List.range cn).flatMap fIt).length := fun v hv => by
      have : (fIt v).Sublist ((List.range cn).flatMap fIt) := List.sublist_flatten_of_mem (List.mem_map.mpr ⟨v, List.mem_range.mpr hv, rfl⟩)
      exact this.length_le
    have hGl := hP.len
    have hfw := hsub w hwc
    have hwsl : (wsL cn c i).length = i := by unfold wsL; simp
    have hall : ∀ l : List Nat, (∀ v ∈ l, v < cn) → (l.flatMap fIt).length ≤ l.length * 10 := by
      intro l
      induction l with
      | nil => intro _; exact Nat.zero_le _
      | cons a l ih =>
        intro h
        have h1 := hsub a (h a List.mem_cons_self)
        have h2 := ih fun v hv => h v (List.mem_cons_of_mem _ hv)
        rw [List.flatMap_cons, List.length_append, List.length_cons]
        omega
    have hvl : vs.length ≤ 100 := by
      rw [hdl, List.length_map]
      have h1 := hall (0 :: wsL cn c i) (fun v hv => by
        rcases List.mem_cons.mp hv with rfl | hv
        · omega
        · unfold wsL at hv
          obtain ⟨j, _, rfl⟩ := List.mem_map.mp hv
          have : (j + 1 + c) % (cn - 1) < cn - 1 := Nat.mod_lt _ (by omega)
          omega)
      rw [List.length_cons, hwsl] at h1
      omega
    refine ⟨_, rfl, _, rfl, _, rfl, .inl ⟨rfl, _, SqL.of hfil3⟩, _, rfl, A.lf, _, _, w, _, rfl, rfl, SqL.of hfil3, rfl, flat_strs _, hgf, fil_eq1 w, fun m z' hm hz' => ?_, A.lr, _, _, _, rfl, rfl, SqL.of hrul3, hatr, du, A.ra w, _, _, rfl, rfl, hdu3, hvw3, sz (by rw [hdwl, List.length_map]; omega), fun du2 hdu2 => ?_⟩
    · have hm4 : m < 4 := by omega
      rw [List.getElem?_map, List.getElem?_map, List.getElem?_range (by omega)] at hz'
      have e5 : V.str (fN m) = z' := Option.some.inj hz'
      rw [← e5]
      exact fil_eq ⟨w, hw4⟩ ⟨m, hm4⟩ hm
    have s4 := same_new hdu2 (.lst (vs ++ vw))
    have hlo4 := s4 _ _ hlo3
    refine ⟨_, rfl, .inl ⟨rfl, _, SqL.of hlo4⟩, _, rfl, lo, _, _, rfl, rfl, hlo4, szl (by rw [List.length_map, List.length_map, List.length_cons, hwsl]; omega), ?_⟩
    have ndu : du2 ≠ lo := (ne_of_none hlo3 hdu2).symm
    have hws1 : wsL cn c (i + 1) = wsL cn c i ++ [w] := by
      unfold wsL
      rw [List.range_succ, List.map_append, hw] <;> rfl
    have hB5 : But2 A.lt lo H2 (upd (upd H3 du2 (.lst (vs ++ vw))) lo (.lst (((0 :: wsL cn c i).map fN).map V.str ++ [.str (fN w)]))) := fun c0 o0 h0 z1 z2 => by
      rw [upd_ne z2]
      exact s4 _ _ (b3 _ _ h0 z1 z2)
    have ki5 : KI H3 (upd (upd H3 du2 (.lst (vs ++ vw))) lo (.lst (((0 :: wsL cn c i).map fN).map V.str ++ [.str (fN w)]))) := (KI.same s4).trans (but_ki (But.upd _) hlo4)
    refine ⟨t0 ++ ("use " : Str) ++ fN w ++ (" \n" : Str), du2, vs ++ vw, _, _, rfl, hB5, by rw [upd_ne nlo1.symm]; exact s4 _ _ hlt3, ?_, ?_, by rw [upd_ne ndu, upd_same], ?_, ?_, (ne_of_none hlt3 hdu2).symm, ndu⟩
    · have e1 : tl (" \n" : Str) = tl (" " : Str) ++ [10] := by decide +kernel
      have e2 : tl (useZ (fN w)) = tl ("use " : Str) ++ tl (fN w) ++ tl (" " : Str) := by
        show tl (("use " : Str) ++ fN w ++ (" " : Str)) = _
        rw [tl_append, tl_append]
      have e4 : lnT ([w].map fun n => useZ (fN n)) = tl (useZ (fN w)) ++ [10] := rfl
      rw [tl_append, tl_append, tl_append, ht0, e1, hws1, List.map_append, lnT_app, lnT_app, lnT_app, e4, e2]
      simp
    · simp only [len_app]
      omega
    · rw [hws1, ← List.cons_append, List.flatMap_append, List.map_append]
      have e3 : [w].flatMap fIt = fIt w := by rw [List.flatMap_cons, List.flatMap_nil, List.append_nil]
      rw [e3]
      exact ((hds.ki ki1).ki ki5).app ((hdw.ki ki3).ki ki5)
    · rw [upd_same, hws1, ← List.cons_append, List.map_append, List.map_append] <;> rfl
  rintro σ HC ⟨t0, du, vs, v8', v15, rfl, hBC, hltC, ht0, hl0, hduC, hdsC, hloC, n1, n2⟩
  obtain ⟨ws, hws⟩ : ∃ ws, ws = wsL cn c (cn - 1) := ⟨_, rfl⟩
  rw [← hws] at ht0 hdsC hloC
  have hperm : (0 :: ws).Perm (List.range cn) := by rw [hws]; exact ws_perm cn1 cn4
  have hws4 : ∀ n ∈ ws, n < 4 := fun n hn => by
    have := List.mem_range.mp ((hperm.mem_iff).mp (List.mem_cons_of_mem _ hn))
    omega
  have hwsc : ∀ n ∈ ws, n < cn := fun n hn => List.mem_range.mp ((hperm.mem_iff).mp (List.mem_cons_of_mem _ hn))
  have hwnd : (0 :: ws).Nodup := (hperm.nodup_iff).mpr List.nodup_range
  have hwsl : ws.length ≤ 3 := by
    have := hperm.length_eq
    rw [List.length_cons, List.length_range] at this
    omega
  have hpf := List.Perm.flatMap_right fIt hperm
  have hall : ∀ x ∈ (0 :: ws).flatMap fIt, ItOk x := fun x hx => by
    obtain ⟨v, _, hv⟩ := List.mem_flatMap.mp hx
    exact hP.ok v x hv
  have hkey : (((0 :: ws).flatMap fIt).map (·.k)).Nodup := ((hpf.map (·.k)).nodup_iff).mpr hP.key
  have hlen : ((0 :: ws).flatMap fIt).length ≤ 10 := by rw [hpf.length_eq]; exact Nat.le_trans hP.len hN10
  obtain ⟨Tt, hTt0, hTt⟩ : ∃ Tt : Nat → Str, Tt 0 = t0 ∧ ∀ v, v ≠ 0 → Tt v = tx v := ⟨updF tx 0 t0, updF_same, fun v hv => updF_ne hv⟩
  have hltC2 : HC A.lt = some (.lst (tl4 fun v => V.str (Tt v))) := by
    rw [hltC]
    show _ = some (HO.lst [V.str (Tt 0), V.str (Tt 1), V.str (Tt 2), V.str (Tt 3)])
    rw [hTt0, hTt 1 (by decide), hTt 2 (by decide), hTt 3 (by decide)]
  have hTlen : ∀ v < cn, (Tt v).length ≤ 400 := fun v hv => by
    by_cases z : v = 0
    · rw [z, hTt0]
      omega
    · rw [hTt v z]
      have := hP.tle v (by omega)
      omega
  have hTtx : ∀ v < cn, txtB (tl (Tt v)) = true := fun v hv => by
    have hno := (its_lls (its := fIt v) (hP.ok v)).no
    by_cases z : v = 0
    · rw [z, hTt0, ht0]
      refine lnT_txt fun y hy => ?_
      rcases List.mem_append.mp hy with h | h
      · rw [z] at hno
        exact hno y h
      · exact (uses_ll hws4).no y h
    · rw [hTt v z, hP.tln v (by omega)]
      exact lnT_txt hno
  have kil : ∀ {c0 : Addr} {o0 : HO}, H2 c0 = some o0 → NL o0 ∨ (∃ kvs, o0 = .dK kvs) → HC c0 = some o0 := fun {c0} {o0} h0 n0 => by
    refine hBC _ _ h0 (fun e => ?_) fun e => ?_
    · rw [e, hG2.txt] at h0
      cases h0
      rcases n0 with n0 | ⟨_, n0⟩
      · exact n0
      · cases n0
    · rw [e, hlo2] at h0
      cases h0
      rcases n0 with n0 | ⟨_, n0⟩
      · exact n0
      · cases n0
  have hTC : TrW K HC tr tx0 d [] [] := ⟨kil hT2.ob (.inl trivial), kil hT2.dc (.inr ⟨_, rfl⟩), trivial⟩
  have hSC : HC sd' = some (.dK (ss.map setE)) := kil hS2 (.inr ⟨_, rfl⟩)
  have hfC : HC A.lf = some (.lst (((List.range cn).map fN).map V.str)) := hBC _ _ hG2.fil hA.n5 nlo3.symm
  have ecn2 : ((cn : Nat) : Int).toNat = cn := by omega
  refine ⟨_, rfl, _, rfl, by omega, by omega, ?_⟩
  rw [ecn2]
  refine for_range (n := cn) (fun i σ H' => ∃ (kvs : List (Key × V)) (es : List (Str × Ent)) (v8'' : Option V), σ = pre8 sc F cn A sd' ++ [v8'', v9, v10, v11, some (.ref tr), some (.ref du), some (.ref lo), v15, none, none, none, none] ∧ But d HC H' ∧ TrW K H' tr tx0 d kvs es ∧ es.length ≤ i ∧ (es.map (·.1)).Nodup ∧ ∀ v < i, look es (fN v) = some (.file (Tt v) "person"))
    ⟨[], [], v8', rfl, fun c o h _ => h, hTC, Nat.le_refl _, List.nodup_nil, fun v hv => absurd hv (Nat.not_lt_zero v)⟩ ?_ ?_
  · rintro i σ H' hi ⟨kvs, es, v8'', rfl, hB, hT', hel, hen, hlk⟩
    have e0i : (0 : Int) + (i : Nat) = (i : Nat) := by omega
    rw [e0i]
    have hi4 : i < 4 := by omega
    obtain ⟨u1, u2, u3, u4, u5, u6⟩ := useF ⟨i, hi4⟩
    have nld : ∀ {p : Addr} {xs : List V}, HC p = some (.lst xs) → p ≠ d := fun h => ne_of h hTC.dc (by intro z; cases z)
    have hf' := hB _ _ hfC (nld hfC)
    have hl' := hB _ _ hltC2 (nld hltC2)
    have hgf : atI (((List.range cn).map fN).map V.str) ((i : Nat) : Int) = some (.str (fN i)) := atI_nat (by
      rw [List.getElem?_map, List.getElem?_map, List.getElem?_range hi] <;> rfl)
    refine ⟨_, rfl, tr, tx0, _, rfl, hT'.ob, rfl, _, rfl, _, rfl, A.lf, _, _, _, rfl, rfl, SqL.of hf', hgf, _, rfl, _, rfl, A.lt, _, _, _, rfl, rfl, SqL.of hl', atI_nat (tl4_get (fun v => V.str (Tt v)) hi4), tr, tx0, d, kvs, es, fN i, Tt i, rfl, hT', by omega, u1, u2, hTlen i hi, hTtx i hi, fun H3 kvs3 hB3 hT3 => ?_⟩
    refine ⟨kvs3, _, _, rfl, hB.trans hB3, hT3, ?_, ent_nd hen, fun v hv => ?_⟩
    · have := putE_len (es := es) (q := fN i) (e := .file (Tt i) "person")
      omega
    · rw [look_put]
      by_cases z : fN v = fN i
      · have h3 := (useF ⟨v, by omega⟩).2.2.2.2.2 ⟨i, hi4⟩ z
        have h5 : v = i := congrArg Fin.val h3
        rw [if_pos z, h5]
      · rw [if_neg z]
        refine hlk v ?_
        have : v ≠ i := fun e => z (by rw [e])
        omega
  rintro σ HD ⟨kvs, es, v8'', rfl, hBD, hTD, hel, hen, hlk⟩
  have hlk0 : look es "rules" = some (.file t0 "person") := by
    have h := hlk 0 (by omega)
    rw [hTt0] at h
    exact h
  have hlkv : ∀ v, v ≠ 0 → v < cn → look es (fN v) = some (.file (tx v) "person") := fun v h1 h2 => by
    rw [← hTt v h1]
    exact hlk v h2
  refine ⟨MidL K HC tr tx0 d cn tx t0 (pre8 sc F cn A sd' ++ [v8'', v9, v10, v11, some (.ref tr), some (.ref du), some (.ref lo), v15, none, none, none, none]), ?_, ?_⟩
  · refine ⟨_, rfl, _, _, rfl, rfl, ⟨by decide, by decide⟩, _, _, rfl, rfl, (by show (0 : Int) < 2; decide), rfl, _, rfl, it2 (fun _ => ?_) fun _ => ?_⟩
    · have nld : ∀ {p : Addr} {xs : List V}, HC p = some (.lst xs) → p ≠ d := fun h => ne_of h hTC.dc (by intro z; cases z)
      have hl' := hBD _ _ hltC2 (nld hltC2)
      have hreal : okW ("real" : Str) ∧ pathB ("real" : Str) = true ∧ okW ("rules" : Str) ∧ pathB ("rules" : Str) = true := by decide +kernel
      refine ⟨_, rfl, tr, tx0, _, rfl, hTD.ob, rfl, _, rfl, A.lt, _, _, _, rfl, rfl, SqL.of hl', atI_nat (j := 0) rfl, tr, tx0, d, kvs, es, "real", Tt 0, rfl, hTD, by omega, hreal.1, hreal.2.1, hTlen 0 (by omega), hTtx 0 (by omega), fun H3 kvs3 hB3 hT3 => ?_⟩
      have hp3 := putE_len (es := es) (q := "real") (e := .file (Tt 0) "person")
      refine ⟨_, rfl, tr, tx0, _, rfl, hT3.ob, rfl, tr, tx0, d, kvs3, _, "rules", "real", rfl, hT3, by omega, hreal.2.2.1, hreal.2.2.2, hreal.1, hreal.2.1, fun H4 kvs4 hB4 hT4 => ?_⟩
      have hne : ∀ v : Fin 4, v.val ≠ 0 → fN v ≠ "rules" ∧ fN v ≠ "real" := by decide +kernel
      have hrr : ("real" : Str) ≠ "rules" := by decide +kernel
      have k1 : look (putE (putE es "real" (.file (Tt 0) "person")) "rules" (.link "real")) "rules" = some (.link "real") := by rw [look_put, if_pos rfl]
      have k2 : look (putE (putE es "real" (.file (Tt 0) "person")) "rules" (.link "real")) "real" = some (.file t0 "person") := by rw [look_put, if_neg hrr, look_put, if_pos rfl, hTt0]
      refine ⟨kvs4, _, "real", rfl, (hBD.trans hB3).trans hB4, hT4, ent_nd (ent_nd hen), rslv_link k1 k2 7, k2, fun v h1 h2 => ?_⟩
      obtain ⟨m1, m2⟩ := hne ⟨v, by omega⟩ h1
      rw [look_put, if_neg m1, look_put, if_neg m2]
      exact hlkv v h1 h2
    · exact ⟨kvs, es, "rules", rfl, hBD, hTD, hen, rslv_file hlk0 8, hlk0, hlkv⟩
  rintro σ' HE ⟨kvs, es, r, rfl, hBE, hTE, hen, hr1, hr2, hlkv⟩
  refine ⟨_, rfl, tr, tx0, _, rfl, hTE.ob, rfl, tr, tx0, d, kvs, es, rfl, hTE, fun HG r2 dx2 d2 sG hT2' => ?_⟩
  have hTG := hTE.same sG
  -- the book
  have ht0l : t0.length ≤ 1000 := by omega
  have hfil := fil_main (es := es) (fIt := fIt) (tx := tx) (t := t0) (ws := ws) hws4 hwnd hwsl hall hkey (by omega) (fun n hn => by
    have n0 : n ≠ 0 := fun e => (List.nodup_cons.mp hwnd).1 (e ▸ hn)
    have hl := hlkv n n0 (hwsc n hn)
    exact ⟨hP.tln n (hws4 n hn), by have := hP.tle n (hws4 n hn); omega, rslv_file hl 8, hl⟩) ht0 ht0l
  refine ⟨_, rfl, tr, tx0, d, kvs, es, r, t0, _, rfl, hTG, hr1, hr2, hfil, fun HX b bx se rl fl sX hbk => ?_⟩
  have sGX := sG.trans sX
  have nld : ∀ {p : Addr} {xs : List V}, HC p = some (.lst xs) → p ≠ d := fun h => ne_of h hTC.dc (by intro z; cases z)
  have nsd : sd' ≠ d := by
    have h1 : (upd (upd HB tx0 (.own tr)) tr (.ins (He.ga K "Tree") tx0 [])) sd' = some (.dK (ss.map setE)) := (made_keep ntr ntx fun c o h _ => h) _ _ hS
    exact ne_of_none h1 hd0
  have hSX : HX sd' = some (.dK (ss.map setE)) := sGX _ _ (hBE _ _ hSC nsd)
  have hduX : HX du = some (.lst vs) := sGX _ _ (hBE _ _ hduC (nld hduC))
  have hloX : HX lo = some (.lst (((0 :: ws).map fN).map V.str)) := sGX _ _ (hBE _ _ hloC (nld hloC))
  have kiX : KI HC HX := (but_kid hBE hTC.dc).trans (KI.same sGX)
  have hdsX := hdsC.ki kiX
  have hTX := hTE.same sGX
  have hT2X := hT2'.same sX
  obtain ⟨rvs, hrlX, hruX⟩ := hbk.hr
  have hssl : ((0 :: ws).flatMap fIt).filterMap setP |>.Perm ss := (hpf.filterMap setP).trans hPm.symm
  have hsl2 := hssl.length_eq
  have hndss := ss_nd hP hPm
  have hdl := hdsX.len
  have hrl := rusAt_len hruX
  have hrl2 : (stOf ((0 :: ws).flatMap fIt) ((0 :: ws).map fN)).rs.length = ((0 :: ws).flatMap fIt).length := by
    show (((0 :: ws).flatMap fIt).map (·.rd)).length = _
    rw [List.length_map]
  rw [List.length_map] at hdl
  have hvlen : rvs.length = vs.length := by omega
  -- the settings
  refine ⟨_, rfl, b, bx, _, rfl, hbk.ob, _, rfl, itF rfl ?_⟩
  refine ⟨_, rfl, b, _, bx, _, _, rfl, hbk.ob, T.c_Book, T.n_Book_settings, rfl, _, rfl, se, sd', _, _, rfl, rfl, hbk.hs, hSX, ?_, fun p hp => ?_, _, rfl, itF rfl ?_⟩
  · rw [List.length_map, List.length_map]
    exact hsl2
  · obtain ⟨kv, hkv, rfl⟩ := List.mem_map.mp hp
    exact ⟨setE_get hndss kv ((hssl.mem_iff).mp hkv), rfl⟩
  -- the files
  have hgd : GdA 1 (((0 :: ws).map fN).map PyData.str) := fun x hx => by
    obtain ⟨z, hz, rfl⟩ := List.mem_map.mp hx
    obtain ⟨n, hn, rfl⟩ := List.mem_map.mp hz
    have hn4 : n < 4 := by
      have := List.mem_range.mp ((hperm.mem_iff).mp hn)
      omega
    have key : ∀ n : Fin 4, asc (tl (fN n)) = true := by decide +kernel
    exact Gd.str (key ⟨n, hn4⟩)
  obtain ⟨hsh, heq⟩ := shaped_lst hgd (by decide)
  refine ⟨_, rfl, b, _, bx, _, _, rfl, hbk.ob, T.c_Book, T.n_Book_files, rfl, _, rfl, .list (((0 :: ws).map fN).map PyData.str), .list (((0 :: ws).map fN).map PyData.str), .lst (SqL.of hbk.hf) (dpa_strs _), .lst (SqL.of hloX) (dpa_strs _), hsh, hsh, _, rfl, itF (nb heq) ?_⟩
  -- how many rules
  refine ⟨_, rfl, b, _, bx, _, _, rfl, hbk.ob, T.c_Book, T.n_Book_rules, rfl, rl, _, rfl, .inl (SqL.of hrlX), _, rfl, du, _, rfl, .inl (SqL.of hduX), rfl, _, rfl, itF (nb (decide_eq_true (by rw [hvlen]))) ?_⟩
  -- each rule
  refine ⟨_, rfl, du, _, rfl, .inl (SqL.of hduX), _, rfl, by omega, by omega, ?_⟩
  have evl : ((vs.length : Nat) : Int).toNat = vs.length := by omega
  rw [evl]
  refine for_range (n := vs.length) (fun i σ H' => ∃ v8e : Option V, σ = pre8 sc F cn A sd' ++ [v8e, v9, v10, v11, some (.ref tr), some (.ref du), some (.ref lo), v15, some (.ref r2), some (.ref b), none, none] ∧ Same HX H') ⟨v8'', rfl, Same.refl _⟩ ?_ ?_
  · rintro i σ H' hi ⟨v8e, rfl, sH⟩
    have e0i : (0 : Int) + (i : Nat) = (i : Nat) := by omega
    rw [e0i]
    have hbk' := hbk.same sH
    have hil : i < ((0 :: ws).flatMap fIt).length := by omega
    obtain ⟨e, he⟩ : ∃ e, ((0 :: ws).flatMap fIt)[i]? = some e := ⟨_, List.getElem?_eq_getElem hil⟩
    have hek : ItOk e := hall e (List.mem_of_getElem? he)
    have hrd : (((0 :: ws).flatMap fIt).map (·.rd))[i]? = some e.rd := by rw [List.getElem?_map, he]; rfl
    obtain ⟨u, hu1, hu2⟩ := rusAt_get (r := e.rd) (i := i) (rusAt_ki (KI.same sH) hruX) hrd
    obtain ⟨v, hv1, hv2⟩ := DuesAt.get (hdsX.ki (KI.same sH)) hrd
    obtain ⟨x, hx1, hx2, hx3⟩ := out_hd hek
    obtain ⟨pu, xu, to, ti, vb, rfl, hrest⟩ := id hu2
    refine ⟨_, rfl, b, _, bx, _, _, rfl, hbk'.ob, T.c_Book, T.n_Book_rules, rfl, _, rfl, rl, _, _, _, rfl, rfl, SqL.of (sH _ _ hrlX), atI_nat hu1, _, rfl, _, rfl, du, _, _, _, rfl, rfl, SqL.of (sH _ _ hduX), atI_nat hv1, pu, v, e.rd, x, rfl, hu2, hv2, out_asc hek, hx1, hx2, hx3, fun H3 s3 => ⟨_, rfl, itF rfl ?_⟩⟩
    exact ⟨_, rfl, sH.trans s3⟩
  rintro σ HZ ⟨v8e, rfl, sZ⟩
  -- nothing is changed
  have hTZ := hTX.same sZ
  have hT2Z := hT2X.same sZ
  refine ⟨_, rfl, tr, _, tx0, _, _, rfl, hTZ.ob, T.c_Tree, T.n_Tree_entries, rfl, _, rfl, r2, _, dx2, _, _, rfl, hT2Z.ob, T.c_Tree, T.n_Tree_entries, rfl, 1, by decide, .inr ⟨d, d2, kvs, kvs, rfl, rfl, hTZ.dc, hT2Z.dc, rfl, fun p hp => ?_⟩, k _⟩
  have hkeys := ent_keys hTZ.en
  have hkn : (kvs.map (·.1)).Nodup := by
    rw [hkeys]
    have : (es.map fun pe => (Sum.inr pe.1 : Key)) = (es.map (·.1)).map (Sum.inr : Str → Key) := by rw [List.map_map]; rfl
    rw [this]
    exact List.Pairwise.map _ (fun a b (n : a ≠ b) z => n (Sum.inr.inj z)) hen
  have hval : ∀ {kvs : List (Key × V)}, (kvs.map (·.1)).Nodup → ∀ p ∈ kvs, valV kvs p.1 = some p.2 := by
    intro kvs
    induction kvs with
    | nil => intro _ p hp; cases hp
    | cons q kvs ih =>
      intro hn p hp
      obtain ⟨h1, h2⟩ := List.nodup_cons.mp hn
      rcases List.mem_cons.mp hp with rfl | hp
      · exact valV_pos rfl
      · have : q.1 ≠ p.1 := fun z => h1 (List.mem_map.mpr ⟨p, hp, z.symm⟩)
        rw [valV_neg this]
        exact ih h2 p hp
  have href : ∀ {kvs : List (Key × V)} {es : List (Str × Ent)}, EntAt HZ kvs es → ∀ p ∈ kvs, ∃ a, p.2 = .ref a := by
    intro kvs
    induction kvs with
    | nil => intro es _ p hp; cases hp
    | cons q kvs ih =>
      intro es he p hp
      cases es with
      | nil => exact he.elim
      | cons e es =>
        obtain ⟨_, ⟨t, ht, _⟩, h2⟩ := he
        rcases List.mem_cons.mp hp with rfl | hp
        · exact ⟨t, ht⟩
        · exact ih h2 p hp
  obtain ⟨a, ha⟩ := href hTZ.en p hp
  exact ⟨p.2, hval hkn p hp, .inr (.inl ⟨a, ha, ha⟩)⟩
end
end Ky

/-! The end: the law's promise under the head. -/
namespace Ky
open PySem PySem.Spec PyProof.Rows L2
/-- the function's record at a def's place -/
def phi (K : PySem.W.Frag) (fd0 : FuncData) (p : Str × Option Str) : FuncData := match K.lookup (He.fAd K p) with
  | some ⟨_, _, .func fd, _⟩ => fd
  | _ => fd0
theorem phi_eq {K : PySem.W.Frag} {fd0 fd : FuncData} {x qual : Str} {params : Arguments} {body : List Stmt} {scope : Scope} {dvs : List V} {kws : List (Str × V)} {p : Str × Option Str} (F : FunD K x qual params body scope dvs kws (He.fAd K p) fd) : phi K fd0 p = fd := by
  obtain ⟨oc, od, dV, kV, doc, pm, an, cdv, ct, osl, _, lk, _⟩ := F.ex
  unfold phi
  rw [lk]
theorem tp_of {w : World} {K : PySem.W.Frag} {h : Heap} {mg : Str → Option Value} (fd0 : FuncData) (X : K.In h) (G : h.Ns mainGlobals mg) (c : He.SaysX fa fn ts [] exH w h K) : Tp w K mg (phi K fd0) := by
  have hm := c.more
  unfold exH at hm
  obtain ⟨h1, h2⟩ := Bool.and_eq_true_iff.mp hm
  refine ⟨⟨h, X, G⟩, fun i f hf => c.t.d.fact i hf, fun i d hd => ?_, fun i t ht => c.t.tab i ht, h2, h1⟩
  obtain ⟨fd, F⟩ := c.t.d.def_ i hd
  have e : phi K fd0 d.at_ = fd := phi_eq F
  rw [e]
  exact F
theorem law_fact {P : Program} {w : World} {K : PySem.W.Frag} {h : Heap} {mg : Str → Option Value} {f : Addr} (X : K.In h) (G : h.Ns mainGlobals mg) (hfa : mg ("law" : Str) = some (.ref f)) (c : He.SaysX fa fn ts [] exH w h K) :
    ∃ fd : FuncData, (∀ (s : Shared) (v : Value), BindsTo s fd ⟨[v], []⟩ [("_law_script", v)]) ∧ ∀ base : Heap, K.In base → base.Ns mainGlobals mg → FnOk P w K mg base CX0 40 f fd ["_law_script"] (spLaw K) := by
  obtain ⟨fd0, _⟩ := c.t.d.def_ 0 (d := d_is_identifier) rfl
  have T := tp_of fd0 X G c
  have e := hfa.symm.trans T.g_law
  cases e
  have b := FunD.bindsA (ps := ["_law_script"]) T.F_law fun _ _ _ _ _ _ us hl => match us, hl with | [_], _ => rfl
  exact ⟨_, fun s v => b s [v] rfl, fun base _ _ => ok_law T⟩
end Ky
open PySem PySem.W PySem.Calls PyProof.Rows
theorem PySem.Challenge.cw_kilnyard_k14_whole_books_are_read_holds : PySem.Challenge.rw_kilnyard_k14_whole_books_are_read.Holds := by
  w_on; o_law
  refine HandSHeadRun.head_any (r := OpenLaw.row PySem.Challenge.rw_kilnyard_k14_whole_books_are_read) (q := view (OpenLaw.row PySem.Challenge.rw_kilnyard_k14_whole_books_are_read).prog [72]) (H := Ky.hk) (ob := Ky.ob) (M := 6000) (loose := Ky.namesA ++ Ky.namesB) (d := HandSHeadRun.topDef (OpenLaw.row PySem.Challenge.rw_kilnyard_k14_whole_books_are_read).prog 72) (kwd := []) Ky.ob_eq
    (by kernel_rfl) (fun s => by kernel_rfl) Ky.run (by kernel_rfl) (by kernel_rfl) (by kernel_rfl) (by rfl) (by first | assumption | decide +kernel) (by decide +kernel) ⟨rfl, rfl, rfl, rfl, rfl, by decide +kernel⟩ ?hw ?hc
  case hw => w_witness2
  case hc =>
    refine L2.walk_ofE (l := PySem.Challenge.rw_kilnyard_k14_whole_books_are_read) (n := 63) (k := 40) (x := "_law_script") (CX := L2.CX0) rfl (by decide) (by kernel_rfl) ⟨rfl, by decide, by decide⟩ ?F (fun _ _ _ _ z => z)
    intro w mg fa h Y G hmg0
    obtain ⟨K, KX, c⟩ := Y
    have hmg : mg ("law" : PySem.Str) = some (.ref fa) := by
      have e : (HandSHeadRun.topDef (OpenLaw.row PySem.Challenge.rw_kilnyard_k14_whole_books_are_read).prog 72).name = ("law" : PySem.Str) := by kernel_rfl
      rw [← e]
      exact hmg0
    obtain ⟨fd, hb, hF⟩ := Ky.law_fact (P := (PySem.Challenge.rw_kilnyard_k14_whole_books_are_read).prog) (w := w) KX G hmg c
    exact ⟨K, fd, Ky.spLaw K, KX, hb, fun H a ns hl _ hS => ⟨a, ns, rfl, hl, hS, fun _ => rfl⟩, hF⟩

