import PyProof.Rows.All
import Wide.All
import OpenK.AllK
import Wide.FinOn
import KE.KStateDown
import Lean
import HandS.Base
import HandS.Call
import HandS.Ends
import HandS.Words
import HandS.Defaults
import HandS.Head0
import HandS.Head1
import HandS.Head2
import HandS.HeadEnd
import HandS.HeadHook1
import HandS.HeadHook2
import HandS.List
import HandS.Comp
import HandS.Dict
import HandS.Iter
import HandS.Text
import HandS.WordsList
import HandS.WordsDict
import HandS.Codes
import HandS.Exc
import HandS.IsInst
import HandS.More
import HandS.Wide
import HandS.TupAny
import HandS.Style
import HandS.Walk
import PyProof.AutoSeq1
import HandS.Zip
import PySem.Challenge.RW_foreknown_k23_whole_programs_both_ways
set_option Elab.async false
set_option linter.all false
set_option autoImplicit false
set_option maxRecDepth 100000
/-! FKH0 -/
set_option maxHeartbeats 0
namespace FK
open PySem PySem.Spec PyProof.Rows L2
/-! ### the text by places -/
abbrev RW : PySem.W.OpenLaw := PySem.Challenge.rw_foreknown_k23_whole_programs_both_ways
def top (i : Nat) : Stmt := PySem.Challenge.pw_foreknown_k23_whole_programs_both_ways.main.body.getD i (.Pass ⟨0, 0, 0, 0⟩)
abbrev s_lines_of : Stmt := top 10
abbrev s_atoms_of : Stmt := top 11
abbrev s_aim_of : Stmt := top 12
abbrev s_params_counted : Stmt := top 14
abbrev s_check_line : Stmt := top 15
abbrev s_check_block : Stmt := top 16
abbrev s_check : Stmt := top 17
abbrev s_Op_init : Stmt := inClass (top 19) 0
abbrev s_Add_init : Stmt := inClass (top 22) 0
abbrev s_Sub_init : Stmt := inClass (top 23) 0
abbrev s_Mul_init : Stmt := inClass (top 24) 0
abbrev s_Div_init : Stmt := inClass (top 25) 0
abbrev s_Rem_init : Stmt := inClass (top 26) 0
abbrev s_Less_init : Stmt := inClass (top 27) 0
abbrev s_Same_init : Stmt := inClass (top 28) 0
abbrev s_Down_init : Stmt := inClass (top 29) 0
abbrev s_KindOf_init : Stmt := inClass (top 30) 0
abbrev s_Front_init : Stmt := inClass (top 31) 0
abbrev s_Head_init : Stmt := inClass (top 32) 0
abbrev s_Rest_init : Stmt := inClass (top 33) 0
abbrev s_Many_init : Stmt := inClass (top 34) 0
abbrev s_Item_init : Stmt := inClass (top 35) 0
abbrev s_Put_init : Stmt := inClass (top 36) 0
abbrev s_Field_init : Stmt := inClass (top 37) 0
abbrev s_SetIn_init : Stmt := inClass (top 38) 0
abbrev s_op_of : Stmt := top 39
abbrev s_made_of : Stmt := top 50
abbrev s_is_word : Stmt := top 51
abbrev s_is_name : Stmt := top 52
abbrev s_number_of : Stmt := top 53
abbrev s_Signs_init : Stmt := inClass (top 54) 0
abbrev s_Signs_take : Stmt := inClass (top 54) 1
abbrev s_Signs_piece : Stmt := inClass (top 54) 2
abbrev s_Signs_next_word : Stmt := inClass (top 54) 3
abbrev s_Signs_more : Stmt := inClass (top 54) 4
abbrev s_value_at : Stmt := top 55
abbrev s_row_at : Stmt := top 56
abbrev s_record_at : Stmt := top 57
abbrev s_read_value : Stmt := top 58
abbrev s_Rows_init : Stmt := inClass (top 59) 0
abbrev s_Rows_done : Stmt := inClass (top 59) 1
abbrev s_Rows_words : Stmt := inClass (top 59) 2
abbrev s_name_of : Stmt := top 60
abbrev s_read_atom : Stmt := top 61
abbrev s_read_atoms : Stmt := top 62
abbrev s_read_step : Stmt := top 63
abbrev s_read_if : Stmt := top 64
abbrev s_read_end : Stmt := top 65
abbrev s_read_block : Stmt := top 66
abbrev s_read_function : Stmt := top 67
abbrev s_read : Stmt := top 68
abbrev s_show_value : Stmt := top 70
abbrev s_show_atom : Stmt := top 71
abbrev s_show_words : Stmt := top 72
abbrev s_rows_of : Stmt := top 73
abbrev s_show : Stmt := top 74
abbrev s_g_deck : Stmt := top 76
abbrev s_g_next : Stmt := top 77
abbrev s_g_number : Stmt := top 78
abbrev s_g_word : Stmt := top 79
abbrev s_g_value : Stmt := top 80
abbrev s_g_large : Stmt := top 81
abbrev s_g_text : Stmt := top 82
abbrev s_g_alike : Stmt := top 83
abbrev s_g_word_name : Stmt := top 84
abbrev s_g_name : Stmt := top 85
abbrev s_g_op : Stmt := top 86
abbrev s_g_atom : Stmt := top 87
abbrev s_g_atoms : Stmt := top 88
abbrev s_g_step : Stmt := top 89
abbrev s_g_block : Stmt := top 90
abbrev s_g_heads : Stmt := top 91
abbrev s_g_program : Stmt := top 92
abbrev s_g_rows_program : Stmt := top 93
abbrev s_g_deep_program : Stmt := top 94
abbrev s_g_long_program : Stmt := top 95
abbrev s_g_wide_program : Stmt := top 96
abbrev s_g_branches : Stmt := top 97
abbrev s_g_tree_program : Stmt := top 98
abbrev s_g_any_program : Stmt := top 99
abbrev s_g_atom_text : Stmt := top 100
abbrev s_g_row_text : Stmt := top 101
abbrev s_g_block_rows : Stmt := top 102
abbrev s_g_rows : Stmt := top 103
abbrev s_law : Stmt := top 104
def d_lines_of : He.DefD := ⟨("lines_of", none), "lines_of", "lines_of", defArgs s_lines_of, defBody s_lines_of, defScope s_lines_of, [], []⟩
def d_atoms_of : He.DefD := ⟨("atoms_of", none), "atoms_of", "atoms_of", defArgs s_atoms_of, defBody s_atoms_of, defScope s_atoms_of, [], []⟩
def d_aim_of : He.DefD := ⟨("aim_of", none), "aim_of", "aim_of", defArgs s_aim_of, defBody s_aim_of, defScope s_aim_of, [], []⟩
def d_params_counted : He.DefD := ⟨("params_counted", none), "params_counted", "params_counted", defArgs s_params_counted, defBody s_params_counted, defScope s_params_counted, [], []⟩
def d_check_line : He.DefD := ⟨("check_line", none), "check_line", "check_line", defArgs s_check_line, defBody s_check_line, defScope s_check_line, [], []⟩
def d_check_block : He.DefD := ⟨("check_block", none), "check_block", "check_block", defArgs s_check_block, defBody s_check_block, defScope s_check_block, [], []⟩
def d_check : He.DefD := ⟨("check", none), "check", "check", defArgs s_check, defBody s_check, defScope s_check, [], []⟩
def d_Op_init : He.DefD := ⟨("Op", some "__init__"), "__init__", "Op.__init__", defArgs s_Op_init, defBody s_Op_init, defScope s_Op_init, [], []⟩
def d_Add_init : He.DefD := ⟨("Add", some "__init__"), "__init__", "Add.__init__", defArgs s_Add_init, defBody s_Add_init, defScope s_Add_init, [], []⟩
def d_Sub_init : He.DefD := ⟨("Sub", some "__init__"), "__init__", "Sub.__init__", defArgs s_Sub_init, defBody s_Sub_init, defScope s_Sub_init, [], []⟩
def d_Mul_init : He.DefD := ⟨("Mul", some "__init__"), "__init__", "Mul.__init__", defArgs s_Mul_init, defBody s_Mul_init, defScope s_Mul_init, [], []⟩
def d_Div_init : He.DefD := ⟨("Div", some "__init__"), "__init__", "Div.__init__", defArgs s_Div_init, defBody s_Div_init, defScope s_Div_init, [], []⟩
def d_Rem_init : He.DefD := ⟨("Rem", some "__init__"), "__init__", "Rem.__init__", defArgs s_Rem_init, defBody s_Rem_init, defScope s_Rem_init, [], []⟩
def d_Less_init : He.DefD := ⟨("Less", some "__init__"), "__init__", "Less.__init__", defArgs s_Less_init, defBody s_Less_init, defScope s_Less_init, [], []⟩
def d_Same_init : He.DefD := ⟨("Same", some "__init__"), "__init__", "Same.__init__", defArgs s_Same_init, defBody s_Same_init, defScope s_Same_init, [], []⟩
def d_Down_init : He.DefD := ⟨("Down", some "__init__"), "__init__", "Down.__init__", defArgs s_Down_init, defBody s_Down_init, defScope s_Down_init, [], []⟩
def d_KindOf_init : He.DefD := ⟨("KindOf", some "__init__"), "__init__", "KindOf.__init__", defArgs s_KindOf_init, defBody s_KindOf_init, defScope s_KindOf_init, [], []⟩
def d_Front_init : He.DefD := ⟨("Front", some "__init__"), "__init__", "Front.__init__", defArgs s_Front_init, defBody s_Front_init, defScope s_Front_init, [], []⟩
def d_Head_init : He.DefD := ⟨("Head", some "__init__"), "__init__", "Head.__init__", defArgs s_Head_init, defBody s_Head_init, defScope s_Head_init, [], []⟩
def d_Rest_init : He.DefD := ⟨("Rest", some "__init__"), "__init__", "Rest.__init__", defArgs s_Rest_init, defBody s_Rest_init, defScope s_Rest_init, [], []⟩
def d_Many_init : He.DefD := ⟨("Many", some "__init__"), "__init__", "Many.__init__", defArgs s_Many_init, defBody s_Many_init, defScope s_Many_init, [], []⟩
def d_Item_init : He.DefD := ⟨("Item", some "__init__"), "__init__", "Item.__init__", defArgs s_Item_init, defBody s_Item_init, defScope s_Item_init, [], []⟩
def d_Put_init : He.DefD := ⟨("Put", some "__init__"), "__init__", "Put.__init__", defArgs s_Put_init, defBody s_Put_init, defScope s_Put_init, [], []⟩
def d_Field_init : He.DefD := ⟨("Field", some "__init__"), "__init__", "Field.__init__", defArgs s_Field_init, defBody s_Field_init, defScope s_Field_init, [], []⟩
def d_SetIn_init : He.DefD := ⟨("SetIn", some "__init__"), "__init__", "SetIn.__init__", defArgs s_SetIn_init, defBody s_SetIn_init, defScope s_SetIn_init, [], []⟩
def d_op_of : He.DefD := ⟨("op_of", none), "op_of", "op_of", defArgs s_op_of, defBody s_op_of, defScope s_op_of, [], []⟩
def d_made_of : He.DefD := ⟨("made_of", none), "made_of", "made_of", defArgs s_made_of, defBody s_made_of, defScope s_made_of, [], []⟩
def d_is_word : He.DefD := ⟨("is_word", none), "is_word", "is_word", defArgs s_is_word, defBody s_is_word, defScope s_is_word, [], []⟩
def d_is_name : He.DefD := ⟨("is_name", none), "is_name", "is_name", defArgs s_is_name, defBody s_is_name, defScope s_is_name, [], []⟩
def d_number_of : He.DefD := ⟨("number_of", none), "number_of", "number_of", defArgs s_number_of, defBody s_number_of, defScope s_number_of, [], []⟩
def d_Signs_init : He.DefD := ⟨("Signs", some "__init__"), "__init__", "Signs.__init__", defArgs s_Signs_init, defBody s_Signs_init, defScope s_Signs_init, [], []⟩
def d_Signs_take : He.DefD := ⟨("Signs", some "take"), "take", "Signs.take", defArgs s_Signs_take, defBody s_Signs_take, defScope s_Signs_take, [], []⟩
def d_Signs_piece : He.DefD := ⟨("Signs", some "piece"), "piece", "Signs.piece", defArgs s_Signs_piece, defBody s_Signs_piece, defScope s_Signs_piece, [], []⟩
def d_Signs_next_word : He.DefD := ⟨("Signs", some "next_word"), "next_word", "Signs.next_word", defArgs s_Signs_next_word, defBody s_Signs_next_word, defScope s_Signs_next_word, [], []⟩
def d_Signs_more : He.DefD := ⟨("Signs", some "more"), "more", "Signs.more", defArgs s_Signs_more, defBody s_Signs_more, defScope s_Signs_more, [], []⟩
def d_value_at : He.DefD := ⟨("value_at", none), "value_at", "value_at", defArgs s_value_at, defBody s_value_at, defScope s_value_at, [], []⟩
def d_row_at : He.DefD := ⟨("row_at", none), "row_at", "row_at", defArgs s_row_at, defBody s_row_at, defScope s_row_at, [], []⟩
def d_record_at : He.DefD := ⟨("record_at", none), "record_at", "record_at", defArgs s_record_at, defBody s_record_at, defScope s_record_at, [], []⟩
def d_read_value : He.DefD := ⟨("read_value", none), "read_value", "read_value", defArgs s_read_value, defBody s_read_value, defScope s_read_value, [], []⟩
def d_Rows_init : He.DefD := ⟨("Rows", some "__init__"), "__init__", "Rows.__init__", defArgs s_Rows_init, defBody s_Rows_init, defScope s_Rows_init, [], []⟩
def d_Rows_done : He.DefD := ⟨("Rows", some "done"), "done", "Rows.done", defArgs s_Rows_done, defBody s_Rows_done, defScope s_Rows_done, [], []⟩
def d_Rows_words : He.DefD := ⟨("Rows", some "words"), "words", "Rows.words", defArgs s_Rows_words, defBody s_Rows_words, defScope s_Rows_words, [], []⟩
def d_name_of : He.DefD := ⟨("name_of", none), "name_of", "name_of", defArgs s_name_of, defBody s_name_of, defScope s_name_of, [], []⟩
def d_read_atom : He.DefD := ⟨("read_atom", none), "read_atom", "read_atom", defArgs s_read_atom, defBody s_read_atom, defScope s_read_atom, [], []⟩
def d_read_atoms : He.DefD := ⟨("read_atoms", none), "read_atoms", "read_atoms", defArgs s_read_atoms, defBody s_read_atoms, defScope s_read_atoms, [], []⟩
def d_read_step : He.DefD := ⟨("read_step", none), "read_step", "read_step", defArgs s_read_step, defBody s_read_step, defScope s_read_step, [], []⟩
def d_read_if : He.DefD := ⟨("read_if", none), "read_if", "read_if", defArgs s_read_if, defBody s_read_if, defScope s_read_if, [], []⟩
def d_read_end : He.DefD := ⟨("read_end", none), "read_end", "read_end", defArgs s_read_end, defBody s_read_end, defScope s_read_end, [], []⟩
def d_read_block : He.DefD := ⟨("read_block", none), "read_block", "read_block", defArgs s_read_block, defBody s_read_block, defScope s_read_block, [], []⟩
def d_read_function : He.DefD := ⟨("read_function", none), "read_function", "read_function", defArgs s_read_function, defBody s_read_function, defScope s_read_function, [], []⟩
def d_read : He.DefD := ⟨("read", none), "read", "read", defArgs s_read, defBody s_read, defScope s_read, [], []⟩
def d_show_value : He.DefD := ⟨("show_value", none), "show_value", "show_value", defArgs s_show_value, defBody s_show_value, defScope s_show_value, [], []⟩
def d_show_atom : He.DefD := ⟨("show_atom", none), "show_atom", "show_atom", defArgs s_show_atom, defBody s_show_atom, defScope s_show_atom, [], []⟩
def d_show_words : He.DefD := ⟨("show_words", none), "show_words", "show_words", defArgs s_show_words, defBody s_show_words, defScope s_show_words, [], []⟩
def d_rows_of : He.DefD := ⟨("rows_of", none), "rows_of", "rows_of", defArgs s_rows_of, defBody s_rows_of, defScope s_rows_of, [], []⟩
def d_show : He.DefD := ⟨("show", none), "show", "show", defArgs s_show, defBody s_show, defScope s_show, [], []⟩
def d_g_deck : He.DefD := ⟨("_law_deck", none), "_law_deck", "_law_deck", defArgs s_g_deck, defBody s_g_deck, defScope s_g_deck, [], []⟩
def d_g_next : He.DefD := ⟨("_law_next", none), "_law_next", "_law_next", defArgs s_g_next, defBody s_g_next, defScope s_g_next, [], []⟩
def d_g_number : He.DefD := ⟨("_law_number", none), "_law_number", "_law_number", defArgs s_g_number, defBody s_g_number, defScope s_g_number, [], []⟩
def d_g_word : He.DefD := ⟨("_law_word", none), "_law_word", "_law_word", defArgs s_g_word, defBody s_g_word, defScope s_g_word, [], []⟩
def d_g_value : He.DefD := ⟨("_law_value", none), "_law_value", "_law_value", defArgs s_g_value, defBody s_g_value, defScope s_g_value, [], []⟩
def d_g_large : He.DefD := ⟨("_law_large", none), "_law_large", "_law_large", defArgs s_g_large, defBody s_g_large, defScope s_g_large, [], []⟩
def d_g_text : He.DefD := ⟨("_law_text", none), "_law_text", "_law_text", defArgs s_g_text, defBody s_g_text, defScope s_g_text, [], []⟩
def d_g_alike : He.DefD := ⟨("_law_alike", none), "_law_alike", "_law_alike", defArgs s_g_alike, defBody s_g_alike, defScope s_g_alike, [], []⟩
def d_g_word_name : He.DefD := ⟨("_law_word_name", none), "_law_word_name", "_law_word_name", defArgs s_g_word_name, defBody s_g_word_name, defScope s_g_word_name, [], []⟩
def d_g_name : He.DefD := ⟨("_law_name", none), "_law_name", "_law_name", defArgs s_g_name, defBody s_g_name, defScope s_g_name, [], []⟩
def d_g_op : He.DefD := ⟨("_law_op", none), "_law_op", "_law_op", defArgs s_g_op, defBody s_g_op, defScope s_g_op, [], []⟩
def d_g_atom : He.DefD := ⟨("_law_atom", none), "_law_atom", "_law_atom", defArgs s_g_atom, defBody s_g_atom, defScope s_g_atom, [], []⟩
def d_g_atoms : He.DefD := ⟨("_law_atoms", none), "_law_atoms", "_law_atoms", defArgs s_g_atoms, defBody s_g_atoms, defScope s_g_atoms, [], []⟩
def d_g_step : He.DefD := ⟨("_law_step", none), "_law_step", "_law_step", defArgs s_g_step, defBody s_g_step, defScope s_g_step, [], []⟩
def d_g_block : He.DefD := ⟨("_law_block", none), "_law_block", "_law_block", defArgs s_g_block, defBody s_g_block, defScope s_g_block, [], []⟩
def d_g_heads : He.DefD := ⟨("_law_heads", none), "_law_heads", "_law_heads", defArgs s_g_heads, defBody s_g_heads, defScope s_g_heads, [], []⟩
def d_g_program : He.DefD := ⟨("_law_program", none), "_law_program", "_law_program", defArgs s_g_program, defBody s_g_program, defScope s_g_program, [], []⟩
def d_g_rows_program : He.DefD := ⟨("_law_rows_program", none), "_law_rows_program", "_law_rows_program", defArgs s_g_rows_program, defBody s_g_rows_program, defScope s_g_rows_program, [], []⟩
def d_g_deep_program : He.DefD := ⟨("_law_deep_program", none), "_law_deep_program", "_law_deep_program", defArgs s_g_deep_program, defBody s_g_deep_program, defScope s_g_deep_program, [], []⟩
def d_g_long_program : He.DefD := ⟨("_law_long_program", none), "_law_long_program", "_law_long_program", defArgs s_g_long_program, defBody s_g_long_program, defScope s_g_long_program, [], []⟩
def d_g_wide_program : He.DefD := ⟨("_law_wide_program", none), "_law_wide_program", "_law_wide_program", defArgs s_g_wide_program, defBody s_g_wide_program, defScope s_g_wide_program, [], []⟩
def d_g_branches : He.DefD := ⟨("_law_branches", none), "_law_branches", "_law_branches", defArgs s_g_branches, defBody s_g_branches, defScope s_g_branches, [], []⟩
def d_g_tree_program : He.DefD := ⟨("_law_tree_program", none), "_law_tree_program", "_law_tree_program", defArgs s_g_tree_program, defBody s_g_tree_program, defScope s_g_tree_program, [], []⟩
def d_g_any_program : He.DefD := ⟨("_law_any_program", none), "_law_any_program", "_law_any_program", defArgs s_g_any_program, defBody s_g_any_program, defScope s_g_any_program, [], []⟩
def d_g_atom_text : He.DefD := ⟨("_law_atom_text", none), "_law_atom_text", "_law_atom_text", defArgs s_g_atom_text, defBody s_g_atom_text, defScope s_g_atom_text, [], []⟩
def d_g_row_text : He.DefD := ⟨("_law_row_text", none), "_law_row_text", "_law_row_text", defArgs s_g_row_text, defBody s_g_row_text, defScope s_g_row_text, [], []⟩
def d_g_block_rows : He.DefD := ⟨("_law_block_rows", none), "_law_block_rows", "_law_block_rows", defArgs s_g_block_rows, defBody s_g_block_rows, defScope s_g_block_rows, [], []⟩
def d_g_rows : He.DefD := ⟨("_law_rows", none), "_law_rows", "_law_rows", defArgs s_g_rows, defBody s_g_rows, defScope s_g_rows, [], []⟩
def d_law : He.DefD := ⟨("law", none), "law", "law", defArgs s_law, defBody s_law, defScope s_law, [], []⟩
def fn0 : List He.DefD := [d_lines_of, d_atoms_of, d_aim_of, d_params_counted, d_check_line, d_check_block, d_check, d_Op_init, d_Add_init, d_Sub_init, d_Mul_init, d_Div_init, d_Rem_init, d_Less_init, d_Same_init, d_Down_init, d_KindOf_init, d_Front_init, d_Head_init, d_Rest_init, d_Many_init, d_Item_init, d_Put_init, d_Field_init, d_SetIn_init, d_op_of, d_made_of, d_is_word, d_is_name, d_number_of]
def fn1 : List He.DefD := [d_Signs_init, d_Signs_take, d_Signs_piece, d_Signs_next_word, d_Signs_more, d_value_at, d_row_at, d_record_at, d_read_value, d_Rows_init, d_Rows_done, d_Rows_words, d_name_of, d_read_atom, d_read_atoms, d_read_step, d_read_if, d_read_end, d_read_block, d_read_function, d_read, d_show_value, d_show_atom, d_show_words, d_rows_of, d_show, d_g_deck, d_g_next, d_g_number, d_g_word]
def fn2 : List He.DefD := [d_g_value, d_g_large, d_g_text, d_g_alike, d_g_word_name, d_g_name, d_g_op, d_g_atom, d_g_atoms, d_g_step, d_g_block, d_g_heads, d_g_program, d_g_rows_program, d_g_deep_program, d_g_long_program, d_g_wide_program, d_g_branches, d_g_tree_program, d_g_any_program, d_g_atom_text, d_g_row_text, d_g_block_rows, d_g_rows, d_law]
def fn : List He.DefD := fn0 ++ fn1 ++ fn2
def fa0 : List He.Fa := [.glo "lines_of", .glo "atoms_of", .glo "aim_of", .glo "params_counted", .glo "check_line", .glo "check_block", .glo "check", .glo "op_of", .glo "made_of", .glo "is_word", .glo "is_name", .glo "number_of", .glo "value_at", .glo "row_at", .glo "record_at", .glo "read_value", .glo "name_of", .glo "read_atom", .glo "read_atoms", .glo "read_step", .glo "read_if", .glo "read_end", .glo "read_block", .glo "read_function", .glo "read", .glo "show_value", .glo "show_atom", .glo "show_words", .glo "rows_of", .glo "show"]
def fa1 : List He.Fa := [.glo "_law_deck", .glo "_law_next", .glo "_law_number", .glo "_law_word", .glo "_law_value", .glo "_law_large", .glo "_law_text", .glo "_law_alike", .glo "_law_word_name", .glo "_law_name", .glo "_law_op", .glo "_law_atom", .glo "_law_atoms", .glo "_law_step", .glo "_law_block", .glo "_law_heads", .glo "_law_program", .glo "_law_rows_program", .glo "_law_deep_program", .glo "_law_long_program", .glo "_law_wide_program", .glo "_law_branches", .glo "_law_tree_program", .glo "_law_any_program", .glo "_law_atom_text", .glo "_law_row_text", .glo "_law_block_rows", .glo "_law_rows", .glo "law", .glo "Add"]
def fa2 : List He.Fa := [.glo "Sub", .glo "Mul", .glo "Div", .glo "Rem", .glo "Less", .glo "Same", .glo "Down", .glo "KindOf", .glo "Front", .glo "Head", .glo "Rest", .glo "Many", .glo "Item", .glo "Put", .glo "Field", .glo "SetIn", .glo "Signs", .glo "Rows", .glo "Op", .glo "Falling", .glo "Sure", .free "all", .free "bool", .free "dict", .free "int", .free "isinstance", .free "len", .free "list", .free "max", .free "min"]
def fa3 : List He.Fa := [.free "range", .free "sorted", .free "str", .free "tuple", .free "zip", .str "LETTERS" "abcdefghijklmnopqrstuvwxyz", .str "FIGURES" "0123456789", .int "MOST_SIGNS" 8, .int "MOST_FIGURES" 18, .int "MOST_PARTS" 60, .int "MOST_PARAMS" 6, .int "MOST_LINES" 60, .int "MOST_IFS" 8, .int "MOST_FUNCTIONS" 200, .cls "Add", .mkr "Add", .noat "Add" "word", .noat "Add" "many", .noat "Add" "kinds", .cls "Sub", .mkr "Sub", .noat "Sub" "word", .noat "Sub" "many", .noat "Sub" "kinds", .cls "Mul", .mkr "Mul", .noat "Mul" "word", .noat "Mul" "many", .noat "Mul" "kinds", .cls "Div"]
def fa4 : List He.Fa := [.mkr "Div", .noat "Div" "word", .noat "Div" "many", .noat "Div" "kinds", .cls "Rem", .mkr "Rem", .noat "Rem" "word", .noat "Rem" "many", .noat "Rem" "kinds", .cls "Less", .mkr "Less", .noat "Less" "word", .noat "Less" "many", .noat "Less" "kinds", .cls "Same", .mkr "Same", .noat "Same" "word", .noat "Same" "many", .noat "Same" "kinds", .cls "Down", .mkr "Down", .noat "Down" "word", .noat "Down" "many", .noat "Down" "kinds", .cls "KindOf", .mkr "KindOf", .noat "KindOf" "word", .noat "KindOf" "many", .noat "KindOf" "kinds", .cls "Front"]
def fa5 : List He.Fa := [.mkr "Front", .noat "Front" "word", .noat "Front" "many", .noat "Front" "kinds", .cls "Head", .mkr "Head", .noat "Head" "word", .noat "Head" "many", .noat "Head" "kinds", .cls "Rest", .mkr "Rest", .noat "Rest" "word", .noat "Rest" "many", .noat "Rest" "kinds", .cls "Many", .mkr "Many", .noat "Many" "word", .noat "Many" "many", .noat "Many" "kinds", .cls "Item", .mkr "Item", .noat "Item" "word", .noat "Item" "many", .noat "Item" "kinds", .cls "Put", .mkr "Put", .noat "Put" "word", .noat "Put" "many", .noat "Put" "kinds", .cls "Field"]
def fa6 : List He.Fa := [.mkr "Field", .noat "Field" "word", .noat "Field" "many", .noat "Field" "kinds", .cls "SetIn", .mkr "SetIn", .noat "SetIn" "word", .noat "SetIn" "many", .noat "SetIn" "kinds", .cls "Signs", .mkr "Signs", .noat "Signs" "text", .noat "Signs" "at", .noat "Signs" "room", .meth "Signs" "take", .meth "Signs" "piece", .meth "Signs" "next_word", .meth "Signs" "more", .cls "Rows", .mkr "Rows", .noat "Rows" "rows", .noat "Rows" "next_row", .meth "Rows" "done", .meth "Rows" "words"]
def fa : List He.Fa := fa0 ++ fa1 ++ fa2 ++ fa3 ++ fa4 ++ fa5 ++ fa6
def loose0 : List PySem.Str := ["_wall", "ForeError", "NoOp", "NoText", "Twice", "Unbound", "NoFunction", "WrongCount", "lines_of", "atoms_of", "aim_of", "params_counted", "check_line", "check_block", "check", "Op", "Falling", "Sure", "Add", "Sub", "Mul", "Div", "Rem", "Less", "Same", "Down", "KindOf", "Front", "Head", "Rest"]
def loose1 : List PySem.Str := ["Many", "Item", "Put", "Field", "SetIn", "op_of", "made_of", "is_word", "is_name", "number_of", "Signs", "value_at", "row_at", "record_at", "read_value", "Rows", "name_of", "read_atom", "read_atoms", "read_step", "read_if", "read_end", "read_block", "read_function", "read", "show_value", "show_atom", "show_words", "rows_of", "show"]
def loose2 : List PySem.Str := ["_law_deck", "_law_next", "_law_number", "_law_word", "_law_value", "_law_large", "_law_text", "_law_alike", "_law_word_name", "_law_name", "_law_op", "_law_atom", "_law_atoms", "_law_step", "_law_block", "_law_heads", "_law_program", "_law_rows_program", "_law_deep_program", "_law_long_program", "_law_wide_program", "_law_branches", "_law_tree_program", "_law_any_program", "_law_atom_text", "_law_row_text", "_law_block_rows", "_law_rows", "LETTERS", "FIGURES"]
def loose3 : List PySem.Str := ["MOST_SIGNS", "MOST_FIGURES", "MOST_PARTS", "MOST_PARAMS", "MOST_LINES", "MOST_IFS", "MOST_FUNCTIONS", "__name__"]
def loose : List PySem.Str := loose0 ++ loose1 ++ loose2 ++ loose3

end FK
/-! FKA -/
set_option maxHeartbeats 4000000
namespace FK
open PySem PySem.Spec PyProof.Rows L2

/-! ### data -/
inductive D where
  | int (i : Int) | str (x : Str) | tup (l : List D) | dct (l : List (Str × D))

mutual
/-- v stands for d in H -/
def Rep (H : Hp) : D → V → Prop
  | .int i, v => v = .int i
  | .str x, v => v = .str x
  | .tup l, v => ∃ a xs, v = .ref a ∧ H a = some (.tup xs) ∧ RepL H l xs
  | .dct l, v => ∃ a kvs, v = .ref a ∧ H a = some (.dK kvs) ∧ RepK H l kvs
def RepL (H : Hp) : List D → List V → Prop
  | [], xs => xs = []
  | d :: ds, xs => ∃ x r, xs = x :: r ∧ Rep H d x ∧ RepL H ds r
def RepK (H : Hp) : List (Str × D) → List (Key × V) → Prop
  | [], ks => ks = []
  | p :: r, ks => ∃ x s, ks = (Sum.inr p.1, x) :: s ∧ Rep H p.2 x ∧ RepK H r s
end
theorem rep_int {H : Hp} {i : Int} {v : V} : Rep H (.int i) v ↔ v = .int i := by rw [Rep]
theorem rep_str {H : Hp} {x : Str} {v : V} : Rep H (.str x) v ↔ v = .str x := by rw [Rep]
theorem rep_tup {H : Hp} {l : List D} {v : V} : Rep H (.tup l) v ↔ ∃ a xs, v = .ref a ∧ H a = some (.tup xs) ∧ RepL H l xs := by rw [Rep]
theorem rep_dct {H : Hp} {l : List (Str × D)} {v : V} : Rep H (.dct l) v ↔ ∃ a kvs, v = .ref a ∧ H a = some (.dK kvs) ∧ RepK H l kvs := by rw [Rep]
theorem repL_nil {H : Hp} {xs : List V} : RepL H [] xs ↔ xs = [] := by rw [RepL]
theorem repL_cons {H : Hp} {d : D} {ds : List D} {xs : List V} : RepL H (d :: ds) xs ↔ ∃ x r, xs = x :: r ∧ Rep H d x ∧ RepL H ds r := by rw [RepL]
theorem repK_nil {H : Hp} {ks : List (Key × V)} : RepK H [] ks ↔ ks = [] := by rw [RepK]
theorem repK_cons {H : Hp} {p : Str × D} {r : List (Str × D)} {ks : List (Key × V)} : RepK H (p :: r) ks ↔ ∃ x s, ks = (Sum.inr p.1, x) :: s ∧ Rep H p.2 x ∧ RepK H r s := by rw [RepK]

/-- what never changes stands as it was -/
def Imm (H H' : Hp) : Prop := (∀ b xs, H b = some (.tup xs) → H' b = some (.tup xs)) ∧ ∀ b ks, H b = some (.dK ks) → H' b = some (.dK ks)
theorem Imm.refl (H : Hp) : Imm H H := ⟨fun _ _ h => h, fun _ _ h => h⟩
theorem Imm.trans {H H1 H2 : Hp} (a : Imm H H1) (b : Imm H1 H2) : Imm H H2 := ⟨fun c xs h => b.1 c xs (a.1 c xs h), fun c ks h => b.2 c ks (a.2 c ks h)⟩
/-- all but S stands as it was -/
def Fr (S : List Addr) (H H' : Hp) : Prop := ∀ b o, H b = some o → b ∉ S → H' b = some o
theorem Fr.refl (S : List Addr) (H : Hp) : Fr S H H := fun _ _ h _ => h
theorem Fr.trans {S : List Addr} {H H1 H2 : Hp} (a : Fr S H H1) (b : Fr S H1 H2) : Fr S H H2 := fun c o h n => b c o (a c o h n) n
theorem Fr.mono {S S' : List Addr} {H H' : Hp} (a : Fr S H H') (h : ∀ b ∈ S, b ∈ S') : Fr S' H H' := fun c o e n => a c o e fun m => n (h c m)
theorem Fr.same {H H' : Hp} (a : Fr [] H H') : Same H H' := fun b o h => a b o h (List.not_mem_nil)
theorem Fr.of {S : List Addr} {H H' : Hp} (a : Same H H') : Fr S H H' := fun b o h _ => a b o h
theorem Fr.new {S : List Addr} {H : Hp} {p : Addr} {o : HO} (h : H p = none) : Fr S H (upd H p o) := fun b u e _ => by rw [upd_ne (ne_of_none e h)]; exact e
theorem Fr.at {S : List Addr} {H H' : Hp} (a : Fr S H H') {p : Addr} {o : HO} (h : H p = some o) (n : p ∉ S := by simp) : H' p = some o := a p o h n
theorem Fr.put {S : List Addr} {H : Hp} {p : Addr} {o : HO} (h : p ∈ S) : Fr S H (upd H p o) := fun b u e n => by rw [upd_ne (fun z => n (by rw [z]; exact h))]; exact e
theorem Same.imm {H H' : Hp} (a : Same H H') : Imm H H' := ⟨fun b xs h => a b _ h, fun b ks h => a b _ h⟩
/-- a list, an object: nothing that a datum is made of -/
def Soft (H : Hp) (a : Addr) : Prop := (∀ xs, H a ≠ some (.tup xs)) ∧ ∀ ks, H a ≠ some (.dK ks)
theorem soft_lst {H : Hp} {a : Addr} {xs : List V} (h : H a = some (.lst xs)) : Soft H a := ⟨fun _ e => (by rw [h] at e; cases e), fun _ e => (by rw [h] at e; cases e)⟩
theorem soft_ins {H : Hp} {a C dx : Addr} {fs : List (Str × V)} (h : H a = some (.ins C dx fs)) : Soft H a := ⟨fun _ e => (by rw [h] at e; cases e), fun _ e => (by rw [h] at e; cases e)⟩
theorem soft_none {H : Hp} {a : Addr} (h : H a = none) : Soft H a := ⟨fun _ e => (by rw [h] at e; cases e), fun _ e => (by rw [h] at e; cases e)⟩
theorem Fr.imm {S : List Addr} {H H' : Hp} (a : Fr S H H') (h : ∀ b ∈ S, Soft H b) : Imm H H' :=
  ⟨fun b xs e => a b _ e fun m => (h b m).1 xs e, fun b ks e => a b _ e fun m => (h b m).2 ks e⟩
theorem Fr.imm0 {H H' : Hp} (a : Fr [] H H') : Imm H H' := a.imm fun _ m => absurd m List.not_mem_nil
theorem Fr.imm1 {H H' : Hp} {p : Addr} {xs : List V} (a : Fr [p] H H') (h : H p = some (.lst xs)) : Imm H H' := a.imm fun b m => by rw [List.mem_singleton.mp m]; exact soft_lst h
theorem imm_upd {H : Hp} {p : Addr} {o : HO} (h : Soft H p) : Imm H (upd H p o) := ⟨fun b xs e => (by rw [upd_ne (fun z => h.1 xs (by rw [← z]; exact e))]; exact e), fun b ks e => (by rw [upd_ne (fun z => h.2 ks (by rw [← z]; exact e))]; exact e)⟩

mutual
theorem Rep.mono {H H' : Hp} (k : Imm H H') : ∀ {d : D} {v : V}, Rep H d v → Rep H' d v
  | .int i, v, h => by rw [rep_int] at *; exact h
  | .str x, v, h => by rw [rep_str] at *; exact h
  | .tup l, v, h => by
    rw [rep_tup] at *
    obtain ⟨a, xs, e, h1, h2⟩ := h
    exact ⟨a, xs, e, k.1 _ _ h1, RepL.mono k h2⟩
  | .dct l, v, h => by
    rw [rep_dct] at *
    obtain ⟨a, xs, e, h1, h2⟩ := h
    exact ⟨a, xs, e, k.2 _ _ h1, RepK.mono k h2⟩
theorem RepL.mono {H H' : Hp} (k : Imm H H') : ∀ {l : List D} {xs : List V}, RepL H l xs → RepL H' l xs
  | [], xs, h => by rw [repL_nil] at *; exact h
  | d :: ds, xs, h => by
    rw [repL_cons] at *
    obtain ⟨x, r, e, h1, h2⟩ := h
    exact ⟨x, r, e, Rep.mono k h1, RepL.mono k h2⟩
theorem RepK.mono {H H' : Hp} (k : Imm H H') : ∀ {l : List (Str × D)} {ks : List (Key × V)}, RepK H l ks → RepK H' l ks
  | [], ks, h => by rw [repK_nil] at *; exact h
  | p :: r, ks, h => by
    rw [repK_cons] at *
    obtain ⟨x, s, e, h1, h2⟩ := h
    exact ⟨x, s, e, Rep.mono k h1, RepK.mono k h2⟩
end
theorem RepL.length {H : Hp} : ∀ {l : List D} {xs : List V}, RepL H l xs → xs.length = l.length
  | [], xs, h => by rw [repL_nil] at h; rw [h]; rfl
  | d :: ds, xs, h => by
    rw [repL_cons] at h
    obtain ⟨x, r, rfl, h1, h2⟩ := h
    rw [List.length_cons, List.length_cons, RepL.length h2]
theorem RepL.append {H : Hp} : ∀ {l m : List D} {xs ys : List V}, RepL H l xs → RepL H m ys → RepL H (l ++ m) (xs ++ ys)
  | [], m, xs, ys, h, g => by rw [repL_nil] at h; rw [h]; exact g
  | d :: ds, m, xs, ys, h, g => by
    rw [repL_cons] at h
    obtain ⟨x, r, rfl, h1, h2⟩ := h
    exact repL_cons.mpr ⟨x, r ++ ys, rfl, h1, RepL.append h2 g⟩
theorem RepL.one {H : Hp} {d : D} {x : V} (h : Rep H d x) : RepL H [d] [x] := repL_cons.mpr ⟨x, [], rfl, h, repL_nil.mpr rfl⟩
theorem RepL.snoc {H : Hp} {l : List D} {xs : List V} {d : D} {x : V} (h : RepL H l xs) (g : Rep H d x) : RepL H (l ++ [d]) (xs ++ [x]) := h.append (.one g)
theorem RepL.get {H : Hp} : ∀ {l : List D} {xs : List V} {i : Nat} {d : D}, RepL H l xs → l[i]? = some d → ∃ x, xs[i]? = some x ∧ Rep H d x
  | [], xs, i, d, h, e => by simp at e
  | c :: ds, xs, 0, d, h, e => by
    rw [repL_cons] at h
    obtain ⟨x, r, rfl, h1, h2⟩ := h
    simp at e
    subst e
    exact ⟨x, rfl, h1⟩
  | c :: ds, xs, i + 1, d, h, e => by
    rw [repL_cons] at h
    obtain ⟨x, r, rfl, h1, h2⟩ := h
    obtain ⟨y, e1, e2⟩ := RepL.get (i := i) h2 (by simpa using e)
    exact ⟨y, by simpa using e1, e2⟩
theorem RepL.at {H : Hp} : ∀ {l : List D} {xs : List V} {i : Nat} {x : V}, RepL H l xs → xs[i]? = some x → ∃ d, l[i]? = some d ∧ Rep H d x
  | [], xs, i, x, h, e => by rw [repL_nil] at h; rw [h] at e; simp at e
  | c :: ds, xs, 0, x, h, e => by
    rw [repL_cons] at h
    obtain ⟨y, r, rfl, h1, h2⟩ := h
    simp at e
    subst e
    exact ⟨c, rfl, h1⟩
  | c :: ds, xs, i + 1, x, h, e => by
    rw [repL_cons] at h
    obtain ⟨y, r, rfl, h1, h2⟩ := h
    obtain ⟨d, e1, e2⟩ := RepL.at (i := i) h2 (by simpa using e)
    exact ⟨d, by simpa using e1, e2⟩
theorem RepL.drop {H : Hp} : ∀ {l : List D} {xs : List V} (n : Nat), RepL H l xs → RepL H (l.drop n) (xs.drop n)
  | _, _, 0, h => h
  | [], xs, n + 1, h => by rw [repL_nil] at h; rw [h]; exact repL_nil.mpr (by simp)
  | c :: ds, xs, n + 1, h => by
    rw [repL_cons] at h
    obtain ⟨y, r, rfl, h1, h2⟩ := h
    exact RepL.drop n h2
theorem RepL.take {H : Hp} : ∀ {l : List D} {xs : List V} (n : Nat), RepL H l xs → RepL H (l.take n) (xs.take n)
  | _, _, 0, h => repL_nil.mpr rfl
  | [], xs, n + 1, h => by rw [repL_nil] at h; rw [h]; exact repL_nil.mpr (by simp)
  | c :: ds, xs, n + 1, h => by
    rw [repL_cons] at h
    obtain ⟨y, r, rfl, h1, h2⟩ := h
    exact repL_cons.mpr ⟨y, r.take n, rfl, h1, RepL.take n h2⟩
theorem repL_strs {H : Hp} : ∀ (l : List Str), RepL H (l.map D.str) (l.map V.str)
  | [] => repL_nil.mpr rfl
  | x :: l => repL_cons.mpr ⟨_, _, rfl, rep_str.mpr rfl, repL_strs l⟩
theorem repL_strs_eq {H : Hp} : ∀ {l : List Str} {xs : List V}, RepL H (l.map D.str) xs → xs = l.map V.str
  | [], xs, h => by rw [List.map_nil, repL_nil] at h; exact h
  | x :: l, xs, h => by
    rw [List.map_cons, repL_cons] at h
    obtain ⟨y, r, rfl, h1, h2⟩ := h
    rw [rep_str.mp h1, repL_strs_eq h2]
    rfl
/-- a new tuple -/
theorem rep_new {H : Hp} {p : Addr} {l : List D} {xs : List V} (h : H p = none) (r : RepL H l xs) : Rep (upd H p (.tup xs)) (.tup l) (.ref p) :=
  rep_tup.mpr ⟨p, xs, rfl, upd_same, r.mono (imm_upd (soft_none h))⟩
end FK
/-! FKB -/
set_option maxHeartbeats 4000000
namespace FK
open PySem PySem.Spec PyProof.Rows L2
open TL (tl)
/-! ### order of texts, sorting -/

def ltS (a b : Str) : Bool := decide (tl a < tl b)
theorem ltS_irrefl (a : Str) : ltS a a = false := decide_eq_false (List.lt_irrefl _)
theorem ltS_trans {a b c : Str} (h : ltS a b = true) (g : ltS b c = true) : ltS a c = true := decide_eq_true (List.lt_trans (of_decide_eq_true h) (of_decide_eq_true g))
theorem ltS_total {a b : Str} (h : ltS a b = false) (g : ltS b a = false) : a = b :=
  TL.ext_tl (List.le_antisymm (List.not_lt.mp (of_decide_eq_false g)) (List.not_lt.mp (of_decide_eq_false h)))
theorem ltS_asymm {a b : Str} (h : ltS a b = true) : ltS b a = false := decide_eq_false (List.lt_asymm (of_decide_eq_true h))
theorem leS_trans {a b c : Str} (h : ltS b a = false) (g : ltS c b = false) : ltS c a = false := by
  cases e : ltS c a with
  | false => rfl
  | true =>
    cases f : ltS a b with
    | true => rw [ltS_trans e f] at g; cases g
    | false =>
      have z := ltS_total h f
      subst z
      rw [e] at g; cases g
section
variable {α : Type}
def insK (p : Str × α) : List (Str × α) → List (Str × α)
  | [] => [p]
  | q :: r => if ltS p.1 q.1 = true then p :: q :: r else q :: insK p r
def sortK : List (Str × α) → List (Str × α)
  | [] => []
  | p :: r => insK p (sortK r)
theorem insK_perm (p : Str × α) : ∀ l, (insK p l).Perm (p :: l)
  | [] => .refl _
  | q :: r => by
    unfold insK
    split
    · exact .refl _
    · exact ((insK_perm p r).cons q).trans (.swap ..)
theorem sortK_perm : ∀ l : List (Str × α), (sortK l).Perm l
  | [] => .refl _
  | p :: r => (insK_perm p (sortK r)).trans ((sortK_perm r).cons p)
theorem sortK_length (l : List (Str × α)) : (sortK l).length = l.length := (sortK_perm l).length_eq
theorem sortK_mem {l : List (Str × α)} {p : Str × α} : p ∈ sortK l ↔ p ∈ l := (sortK_perm l).mem_iff
/-- rising, no key twice in a row -/
def Rise (l : List (Str × α)) : Prop := l.Pairwise fun p q => ltS q.1 p.1 = false
theorem insK_rise {p : Str × α} : ∀ {l}, Rise l → Rise (insK p l)
  | [], _ => List.pairwise_cons.mpr ⟨fun _ h => (by cases h), .nil⟩
  | q :: r, h => by
    unfold insK
    obtain ⟨h1, h2⟩ := List.pairwise_cons.mp h
    split
    · rename_i c
      refine List.pairwise_cons.mpr ⟨fun z hz => ?_, h⟩
      rcases List.mem_cons.mp hz with e | hz
      · rw [e]; exact ltS_asymm c
      · exact leS_trans (ltS_asymm c) (h1 z hz)
    · rename_i c
      refine List.pairwise_cons.mpr ⟨fun z hz => ?_, insK_rise h2⟩
      rcases List.mem_cons.mp ((insK_perm p r).mem_iff.mp hz) with e | hz
      · rw [e]; exact Bool.eq_false_iff.mpr c
      · exact h1 z hz
theorem sortK_rise : ∀ l : List (Str × α), Rise (sortK l)
  | [] => .nil
  | _ :: r => insK_rise (sortK_rise r)
end
theorem insK_map {α β : Type} (f : α → β) (p : Str × α) : ∀ l : List (Str × α), (insK p l).map (fun q => (q.1, f q.2)) = insK (p.1, f p.2) (l.map fun q => (q.1, f q.2))
  | [] => rfl
  | q :: r => by
    unfold insK
    by_cases c : ltS p.1 q.1 = true
    · rw [if_pos c]
      show _ = insK (p.1, f p.2) ((q.1, f q.2) :: r.map fun q => (q.1, f q.2))
      rw [insK, if_pos c]
      rfl
    · rw [if_neg c, List.map_cons, insK_map f p r]
      show _ = insK (p.1, f p.2) ((q.1, f q.2) :: r.map fun q => (q.1, f q.2))
      rw [insK, if_neg c]
theorem sortK_map {α β : Type} (f : α → β) : ∀ l : List (Str × α), (sortK l).map (fun q => (q.1, f q.2)) = sortK (l.map fun q => (q.1, f q.2))
  | [] => rfl
  | p :: r => by
    unfold sortK
    rw [insK_map, sortK_map f r]
    rfl
/-- the texts in their order -/
def sortS (l : List Str) : List Str := (sortK (l.map fun x => (x, ()))).map (·.1)
theorem sortS_keys {α : Type} (l : List (Str × α)) : (sortK l).map (·.1) = sortS (l.map (·.1)) := by
  unfold sortS
  have e := sortK_map (fun _ : α => ()) l
  have e2 : ((sortK l).map (fun q => (q.1, ()))).map (·.1) = (sortK l).map (·.1) := by rw [List.map_map]; rfl
  rw [← e2, e, List.map_map]
  rfl
theorem sortS_perm (l : List Str) : (sortS l).Perm l := by
  have h := (sortK_perm (l.map fun x => (x, ()))).map (·.1)
  rw [List.map_map] at h
  have e : l.map ((fun p : Str × Unit => p.1) ∘ fun x => (x, ())) = l := List.map_id l
  rw [e] at h
  exact h
theorem sortS_rise (l : List Str) : (sortS l).Pairwise fun a b => ltS b a = false := List.pairwise_map.mpr (sortK_rise _)
theorem pairwise_of_sortedS : ∀ {l : List Str}, sortedS l = true → l.Pairwise fun a b => ltS b a = false := by
  have go : ∀ (r : List Str) (p : Str), risingS p r = true → (p :: r).Pairwise fun a b => ltS b a = false := by
    intro r
    induction r with
    | nil => intro p _; exact List.pairwise_cons.mpr ⟨fun _ h => (by cases h), .nil⟩
    | cons x r ih =>
      intro p h
      have h' : (!ltCps x.cps.toList p.cps.toList && risingS x r) = true := h
      rw [Bool.and_eq_true, Bool.not_eq_true'] at h'
      obtain ⟨h1, h2⟩ := h'
      have q := ih x h2
      have c : ltS x p = false := by
        unfold ltS
        rw [lt_meets]
        exact h1
      refine List.pairwise_cons.mpr ⟨fun z hz => ?_, q⟩
      rcases List.mem_cons.mp hz with e | hz
      · rw [e]; exact c
      · exact leS_trans c ((List.pairwise_cons.mp q).1 z hz)
  intro l h
  cases l with
  | nil => exact .nil
  | cons x r => exact go r x h
/-- what sorted tells is the one order -/
theorem sortS_unique {l ys : List Str} (p : ys.Perm l) (h : sortedS ys = true) : ys = sortS l :=
  List.Perm.eq_of_pairwise (le := fun a b => ltS b a = false) (fun a b _ _ h1 h2 => ltS_total h2 h1) (pairwise_of_sortedS h) (sortS_rise l) (p.trans (sortS_perm l).symm)

/-! ### what stands by a key -/
def getK {α : Type} (l : List (Str × α)) (w : Str) : Option α := (l.find? fun p => decide (p.1 = w)).map (·.2)
theorem getK_cons {α : Type} (p : Str × α) (l : List (Str × α)) (w : Str) : getK (p :: l) w = if p.1 = w then some p.2 else getK l w := by
  unfold getK
  rw [List.find?_cons]
  by_cases h : p.1 = w
  · rw [if_pos h, decide_eq_true h]; rfl
  · rw [if_neg h, decide_eq_false h]
theorem getK_mem {α : Type} : ∀ {l : List (Str × α)} {p : Str × α}, (l.map (·.1)).Nodup → p ∈ l → getK l p.1 = some p.2
  | [], _, _, h => by cases h
  | q :: r, p, n, h => by
    rw [List.map_cons, List.nodup_cons] at n
    rw [getK_cons]
    rcases List.mem_cons.mp h with e | h
    · rw [if_pos (by rw [e]), e]
    · rw [if_neg (fun z => n.1 (by rw [z]; exact List.mem_map.mpr ⟨p, h, rfl⟩)), getK_mem n.2 h]
theorem getK_some {α : Type} : ∀ {l : List (Str × α)} {w : Str} {a : α}, getK l w = some a → (w, a) ∈ l
  | [], _, _, h => by cases h
  | q :: r, w, a, h => by
    rw [getK_cons] at h
    by_cases c : q.1 = w
    · rw [if_pos c] at h
      have e : q.2 = a := Option.some.inj h
      rw [← c, ← e]
      exact List.mem_cons_self
    · rw [if_neg c] at h
      exact List.mem_cons_of_mem _ (getK_some h)
theorem getK_sort {α : Type} {l : List (Str × α)} (n : (l.map (·.1)).Nodup) (w : Str) : getK (sortK l) w = getK l w := by
  have n2 : ((sortK l).map (·.1)).Nodup := ((sortK_perm l).map (·.1)).nodup_iff.mpr n
  cases h : getK l w with
  | some a => exact getK_mem (p := (w, a)) n2 (sortK_mem.mpr (getK_some h))
  | none =>
    cases g : getK (sortK l) w with
    | none => rfl
    | some a =>
      have := getK_mem (p := (w, a)) n (sortK_mem.mp (getK_some g))
      rw [h] at this; cases this
theorem repK_keys {H : Hp} : ∀ {l : List (Str × D)} {ks : List (Key × V)}, RepK H l ks → ks.map (·.1) = (l.map (·.1)).map Sum.inr
  | [], ks, h => by rw [repK_nil.mp h]; rfl
  | p :: r, ks, h => by
    obtain ⟨x, s, rfl, h1, h2⟩ := repK_cons.mp h
    rw [List.map_cons, List.map_cons, List.map_cons, repK_keys h2]
theorem repK_length {H : Hp} {l : List (Str × D)} {ks : List (Key × V)} (h : RepK H l ks) : ks.length = l.length := by
  have e := congrArg List.length (repK_keys h)
  simpa using e
theorem repK_get {H : Hp} : ∀ {l : List (Str × D)} {ks : List (Key × V)} {w : Str} {d : D}, RepK H l ks → getK l w = some d → ∃ x, valV ks (Sum.inr w) = some x ∧ Rep H d x
  | [], ks, w, d, h, g => by cases g
  | p :: r, ks, w, d, h, g => by
    obtain ⟨x, s, rfl, h1, h2⟩ := repK_cons.mp h
    rw [getK_cons] at g
    by_cases c : p.1 = w
    · rw [if_pos c] at g
      have e : p.2 = d := Option.some.inj g
      exact ⟨x, valV_pos (by rw [c]), by rw [← e]; exact h1⟩
    · rw [if_neg c] at g
      obtain ⟨y, e1, e2⟩ := repK_get h2 g
      exact ⟨y, by rw [valV_neg (fun z => c (Sum.inr.inj z))]; exact e1, e2⟩
theorem repK_miss {H : Hp} : ∀ {l : List (Str × D)} {ks : List (Key × V)} {w : Str}, RepK H l ks → w ∉ l.map (·.1) → valV ks (Sum.inr w) = none
  | [], ks, w, h, g => by rw [repK_nil.mp h]; rfl
  | p :: r, ks, w, h, g => by
    obtain ⟨x, s, rfl, h1, h2⟩ := repK_cons.mp h
    rw [valV_neg (fun z => g (by rw [List.map_cons, ← Sum.inr.inj z]; exact List.mem_cons_self)), repK_miss h2 fun m => g (by rw [List.map_cons]; exact List.mem_cons_of_mem _ m)]
theorem repK_snoc {H : Hp} : ∀ {l : List (Str × D)} {ks : List (Key × V)} {w : Str} {d : D} {x : V}, RepK H l ks → Rep H d x → RepK H (l ++ [(w, d)]) (ks ++ [(Sum.inr w, x)])
  | [], ks, w, d, x, h, g => by rw [repK_nil.mp h]; exact repK_cons.mpr ⟨x, [], rfl, g, repK_nil.mpr rfl⟩
  | p :: r, ks, w, d, x, h, g => by
    obtain ⟨y, s, rfl, h1, h2⟩ := repK_cons.mp h
    exact repK_cons.mpr ⟨y, s ++ [(Sum.inr w, x)], rfl, h1, repK_snoc h2 g⟩
end FK
/-! FKC -/
set_option maxHeartbeats 4000000
namespace FK
open PySem PySem.Spec PyProof.Rows L2
open TL (tl)
/-! ### a datum's text -/
abbrev cat3 (a b c : Str) : Str := a ++ b ++ c
mutual
def showD : D → Str
  | .int i => Str.ofString (toString i)
  | .str x => ("'" : Str) ++ x
  | .tup l => ("[" : Str) ++ Txt.join "," (showL l) ++ ("]" : Str)
  | .dct l => ("{" : Str) ++ Txt.join "," ((sortK (showK l)).map fun p => p.1 ++ (":" : Str) ++ p.2) ++ ("}" : Str)
def showL : List D → List Str
  | [] => []
  | d :: r => showD d :: showL r
def showK : List (Str × D) → List (Str × Str)
  | [] => []
  | p :: r => (p.1, showD p.2) :: showK r
end
theorem showD_int (i : Int) : showD (.int i) = Str.ofString (toString i) := by rw [showD]
theorem showD_str (x : Str) : showD (.str x) = ("'" : Str) ++ x := by rw [showD]
theorem showD_tup (l : List D) : showD (.tup l) = ("[" : Str) ++ Txt.join "," (showL l) ++ ("]" : Str) := by rw [showD]
theorem showD_dct (l : List (Str × D)) : showD (.dct l) = ("{" : Str) ++ Txt.join "," ((sortK (showK l)).map fun p => p.1 ++ (":" : Str) ++ p.2) ++ ("}" : Str) := by rw [showD]
theorem showL_eq : ∀ l : List D, showL l = l.map showD
  | [] => by rw [showL]; rfl
  | d :: r => by rw [showL, showL_eq r]; rfl
theorem showK_eq : ∀ l : List (Str × D), showK l = l.map fun p => (p.1, showD p.2)
  | [] => by rw [showK]; rfl
  | d :: r => by rw [showK, showK_eq r]; rfl
theorem showK_keys (l : List (Str × D)) : (showK l).map (·.1) = l.map (·.1) := by rw [showK_eq, List.map_map]; rfl
/-! ### the same with the records in order -/
mutual
def normD : D → D
  | .int i => .int i
  | .str x => .str x
  | .tup l => .tup (normL l)
  | .dct l => .dct (sortK (normK l))
def normL : List D → List D
  | [] => []
  | d :: r => normD d :: normL r
def normK : List (Str × D) → List (Str × D)
  | [] => []
  | p :: r => (p.1, normD p.2) :: normK r
end
theorem normL_eq : ∀ l : List D, normL l = l.map normD
  | [] => by rw [normL]; rfl
  | d :: r => by rw [normL, normL_eq r]; rfl
theorem normK_eq : ∀ l : List (Str × D), normK l = l.map fun p => (p.1, normD p.2)
  | [] => by rw [normK]; rfl
  | d :: r => by rw [normK, normK_eq r]; rfl
/-! ### a word, a name, a value that may stand in a program -/
def letters : List Nat := [97, 98, 99, 100, 101, 102, 103, 104, 105, 106, 107, 108, 109, 110, 111, 112, 113, 114, 115, 116, 117, 118, 119, 120, 121, 122]
def figures : List Nat := [48, 49, 50, 51, 52, 53, 54, 55, 56, 57]
def IsWord (x : Str) : Prop := 1 ≤ x.length ∧ x.length ≤ 8 ∧ ∀ c ∈ tl x, c ∈ letters
def IsName (x : Str) : Prop := 1 ≤ x.length ∧ x.length ≤ 8 ∧ (∃ c r, tl x = c :: r ∧ c ∈ letters) ∧ ∀ c ∈ tl x, c ∈ letters ++ figures
/-- n: how deep -/
inductive WfD : D → Prop where
  | int {i : Int} (h : -(10 ^ 18) < i ∧ i < 10 ^ 18) : WfD (.int i)
  | str {x : Str} (h : IsWord x) : WfD (.str x)
  | tup {l : List D} (h : ∀ d ∈ l, WfD d) : WfD (.tup l)
  | dct {l : List (Str × D)} (n : (l.map (·.1)).Nodup) (w : ∀ p ∈ l, IsWord p.1) (h : ∀ p ∈ l, WfD p.2) : WfD (.dct l)
mutual
def partsD : D → Nat
  | .int _ => 1
  | .str _ => 1
  | .tup l => 1 + partsL l
  | .dct l => 1 + partsK l
def partsL : List D → Nat
  | [] => 0
  | d :: r => partsD d + partsL r
def partsK : List (Str × D) → Nat
  | [] => 0
  | p :: r => partsD p.2 + partsK r
end
theorem partsD_pos (d : D) : 1 ≤ partsD d := by cases d <;> (rw [partsD]; try omega)
theorem partsL_mem : ∀ {l : List D} {d : D}, d ∈ l → partsD d ≤ partsL l
  | c :: r, d, h => by
    rw [partsL]
    rcases List.mem_cons.mp h with e | h
    · rw [e]; omega
    · have := partsL_mem h; omega
theorem partsK_mem : ∀ {l : List (Str × D)} {p : Str × D}, p ∈ l → partsD p.2 ≤ partsK l
  | c :: r, d, h => by
    rw [partsK]
    rcases List.mem_cons.mp h with e | h
    · rw [e]; omega
    · have := partsK_mem h; omega
theorem partsL_len : ∀ l : List D, l.length ≤ partsL l
  | [] => Nat.le_refl _
  | d :: r => by
    have := partsL_len r
    have := partsD_pos d
    rw [partsL, List.length_cons]; omega
theorem partsK_len : ∀ l : List (Str × D), l.length ≤ partsK l
  | [] => Nat.le_refl _
  | p :: r => by
    have := partsK_len r
    have := partsD_pos p.2
    rw [partsK, List.length_cons]; omega
theorem partsK_perm {l m : List (Str × D)} (h : l.Perm m) : partsK l = partsK m := by
  induction h with
  | nil => rfl
  | cons p _ ih => rw [partsK, partsK, ih]
  | swap p q l => rw [partsK, partsK, partsK, partsK]; omega
  | trans _ _ a b => rw [a, b]
/-- induction over what a datum holds -/
theorem D.ind {P : D → Prop} (int : ∀ i, P (.int i)) (str : ∀ x, P (.str x)) (tup : ∀ l, (∀ d ∈ l, P d) → P (.tup l)) (dct : ∀ l : List (Str × D), (∀ p ∈ l, P p.2) → P (.dct l)) (d : D) : P d := by
  have go : ∀ n d, partsD d ≤ n → P d := by
    intro n
    induction n with
    | zero => intro d h; have := partsD_pos d; omega
    | succ n ih =>
      intro d h
      cases d with
      | int i => exact int i
      | str x => exact str x
      | tup l => rw [partsD] at h; exact tup l fun d hd => ih d (by have := partsL_mem hd; omega)
      | dct l => rw [partsD] at h; exact dct l fun p hp => ih p.2 (by have := partsK_mem hp; omega)
  exact go _ d (Nat.le_refl _)
theorem norm_parts (d : D) : partsD (normD d) = partsD d := by
  induction d using D.ind with
  | int i => rw [normD]
  | str x => rw [normD]
  | tup l ih =>
    rw [normD, partsD, partsD, normL_eq]
    congr 1
    induction l with
    | nil => rfl
    | cons d r ih2 => rw [List.map_cons, partsL, partsL, ih d List.mem_cons_self, ih2 fun c hc => ih c (List.mem_cons_of_mem _ hc)]
  | dct l ih =>
    rw [normD, partsD, partsD, partsK_perm (sortK_perm _), normK_eq]
    congr 1
    induction l with
    | nil => rfl
    | cons d r ih2 => rw [List.map_cons, partsK, partsK, ih d List.mem_cons_self, ih2 fun c hc => ih c (List.mem_cons_of_mem _ hc)]
theorem insK_of_rise {α : Type} {p : Str × α} : ∀ {l : List (Str × α)}, (∀ q ∈ l, ltS p.1 q.1 = true) → insK p l = p :: l
  | [], _ => rfl
  | q :: r, h => by rw [insK, if_pos (h q List.mem_cons_self)]
theorem sortK_of_strict {α : Type} : ∀ {l : List (Str × α)}, l.Pairwise (fun p q => ltS p.1 q.1 = true) → sortK l = l
  | [], _ => rfl
  | p :: r, h => by
    obtain ⟨h1, h2⟩ := List.pairwise_cons.mp h
    rw [sortK, sortK_of_strict h2, insK_of_rise h1]
theorem sortK_strict {α : Type} {l : List (Str × α)} (n : (l.map (·.1)).Nodup) : (sortK l).Pairwise fun p q => ltS p.1 q.1 = true := by
  have n2 : ((sortK l).map (·.1)).Nodup := ((sortK_perm l).map (·.1)).nodup_iff.mpr n
  have r := sortK_rise l
  generalize sortK l = m at n2 r
  induction m with
  | nil => exact .nil
  | cons p m ih =>
    rw [List.map_cons, List.nodup_cons] at n2
    obtain ⟨h1, h2⟩ := List.pairwise_cons.mp r
    refine List.pairwise_cons.mpr ⟨fun q hq => ?_, ih n2.2 h2⟩
    cases e : ltS p.1 q.1 with
    | true => rfl
    | false => exact absurd (List.mem_map.mpr ⟨q, hq, ltS_total (h1 q hq) e⟩) n2.1
theorem sortK_idem {α : Type} {l : List (Str × α)} (n : (l.map (·.1)).Nodup) : sortK (sortK l) = sortK l := sortK_of_strict (sortK_strict n)
/-- in order at every depth -/
inductive Srt : D → Prop where
  | int (i : Int) : Srt (.int i)
  | str (x : Str) : Srt (.str x)
  | tup {l : List D} (h : ∀ d ∈ l, Srt d) : Srt (.tup l)
  | dct {l : List (Str × D)} (n : l.Pairwise fun p q => ltS p.1 q.1 = true) (h : ∀ p ∈ l, Srt p.2) : Srt (.dct l)
theorem norm_keys (l : List (Str × D)) : (normK l).map (·.1) = l.map (·.1) := by rw [normK_eq, List.map_map]; rfl
theorem norm_srt {d : D} (w : WfD d) : Srt (normD d) := by
  induction d using D.ind with
  | int i => rw [normD]; exact .int i
  | str x => rw [normD]; exact .str x
  | tup l ih =>
    cases w with
    | tup h =>
      rw [normD, normL_eq]
      refine .tup fun d hd => ?_
      obtain ⟨c, hc, rfl⟩ := List.mem_map.mp hd
      exact ih c hc (h c hc)
  | dct l ih =>
    cases w with
    | dct n w h =>
      rw [normD]
      refine .dct (sortK_strict (by rw [norm_keys]; exact n)) fun p hp => ?_
      rw [sortK_mem, normK_eq] at hp
      obtain ⟨c, hc, rfl⟩ := List.mem_map.mp hp
      exact ih c hc (h c hc)
theorem norm_wf {d : D} (w : WfD d) : WfD (normD d) := by
  induction d using D.ind with
  | int i => rw [normD]; exact w
  | str x => rw [normD]; exact w
  | tup l ih =>
    cases w with
    | tup h =>
      rw [normD, normL_eq]
      refine .tup fun d hd => ?_
      obtain ⟨c, hc, rfl⟩ := List.mem_map.mp hd
      exact ih c hc (h c hc)
  | dct l ih =>
    cases w with
    | dct n w h =>
      rw [normD]
      refine .dct (by rw [((sortK_perm (normK l)).map (·.1)).nodup_iff, norm_keys]; exact n) (fun p hp => ?_) fun p hp => ?_
      · rw [sortK_mem, normK_eq] at hp
        obtain ⟨c, hc, rfl⟩ := List.mem_map.mp hp
        exact w c hc
      · rw [sortK_mem, normK_eq] at hp
        obtain ⟨c, hc, rfl⟩ := List.mem_map.mp hp
        exact ih c hc (h c hc)
theorem show_norm {d : D} (w : WfD d) : showD (normD d) = showD d := by
  induction d using D.ind with
  | int i => rw [normD]
  | str x => rw [normD]
  | tup l ih =>
    cases w with
    | tup h =>
      rw [normD, showD_tup, showD_tup, showL_eq, showL_eq, normL_eq, List.map_map]
      have e : l.map (showD ∘ normD) = l.map showD := List.map_congr_left fun d hd => ih d hd (h d hd)
      rw [e]
  | dct l ih =>
    cases w with
    | dct n w h =>
      rw [normD, showD_dct, showD_dct]
      have e1 : showK (sortK (normK l)) = sortK (showK l) := by
        rw [showK_eq, showK_eq, sortK_map showD, normK_eq, List.map_map]
        congr 1
        exact List.map_congr_left fun p hp => by show (p.1, showD (normD p.2)) = (p.1, showD p.2); rw [ih p hp (h p hp)]
      rw [e1, sortK_idem (by rw [showK_keys]; exact n)]
/-- the text of a datum in order -/
theorem show_dct_srt {l : List (Str × D)} (n : l.Pairwise fun p q => ltS p.1 q.1 = true) : showD (.dct l) = ("{" : Str) ++ Txt.join "," (l.map fun p => p.1 ++ (":" : Str) ++ showD p.2) ++ ("}" : Str) := by
  rw [showD_dct, showK_eq, ← sortK_map showD, sortK_of_strict n, List.map_map]
  rfl
end FK
/-! FKT -/
set_option maxHeartbeats 4000000
namespace FK
open PySem PySem.Spec PyProof.Rows L2
open TL (tl)
/-! ### what the walk asks of the text as the top has left it -/
/-- Op.__init__ read off a class -/
def exB (K : PySem.W.Frag) : Bool := [("Op" : Str), ("Falling" : Str), ("Sure" : Str)].all fun x =>
  PySem.W.readsIn K (He.ga K x) (.type "type") && (decide (PySem.W.specialIn K (.ref (He.ga K x)) "__getattribute__" = some (some (.builtin "type.__getattribute__"))) &&
    match PySem.W.findCls K (.ref (He.ga K x)) (.type "type") "__init__" with
    | some (.val (.ref g)) => decide (g = He.ma K (He.ga K "Op") "__init__")
    | _ => false)
/-- where in the heap these facts stand -/
def adr0 : List Addr := [3, 2, 147, 148, 154, 155, 161, 162, 168, 169, 175, 176, 182, 183, 189, 190, 203, 204, 234, 235, 255, 256, 274, 275, 290, 291, 300, 301, 316, 317, 326, 327, 342, 343, 352, 353]
def adr1 : List Addr := [368, 369, 378, 379, 394, 395, 404, 405, 420, 421, 430, 431, 446, 447, 456, 457, 472, 473, 482, 483, 498, 499, 508, 509, 524, 525, 534, 535, 550, 551, 560, 561, 576, 577, 586, 587]
def adr2 : List Addr := [602, 603, 612, 613, 628, 629, 638, 639, 654, 655, 664, 665, 680, 681, 690, 691, 706, 707, 716, 717, 725, 726, 732, 733, 739, 740, 746, 747, 753, 754, 767, 768, 774, 775, 781, 782]
def adr3 : List Addr := [788, 789, 795, 796, 798, 799, 809, 810, 816, 817, 823, 824, 830, 831, 844, 845, 851, 852, 858, 859, 861, 862, 872, 873, 879, 880, 884, 885, 891, 892, 898, 899, 905, 906, 912, 913]
def adr4 : List Addr := [917, 918, 924, 925, 929, 930, 936, 937, 941, 942, 948, 949, 955, 956, 962, 963, 969, 970, 976, 977, 981, 982, 986, 987, 991, 992, 996, 997, 1001, 1002, 1008, 1009, 1013, 1014, 1020, 1021]
def adr5 : List Addr := [1027, 1028, 1032, 1033, 1039, 1040, 1046, 1047, 1051, 1052, 1056, 1057, 1063, 1064, 1070, 1071, 1077, 1078, 1082, 1083, 1089, 1090, 1096, 1097, 1103, 1104, 1110, 1111, 1115, 1116, 1122, 1123, 1129, 1130, 1136, 1137]
def adr : List Addr := adr0 ++ adr1 ++ adr2 ++ adr3 ++ adr4 ++ adr5
def frM (g : Addr → Option Obj) : PySem.W.Frag := He.frG g adr
abbrev AlM : Type := He.AlD × Bool
def obsM (K : PySem.W.Frag) : AlM := (He.obsD fa fn K, exB K)
def valM : AlM := (He.valD fn, true)
def hookM : PySem.W.Hook where
  α := AlM
  obs := fun s => obsM (frM s.heap.get?)
  val := fun _ => valM
  says := fun _ h => ∃ K : PySem.W.Frag, K.In h ∧ obsM K = valM
  of := fun _ _ e => ⟨_, He.frG_in, e⟩
  keeps := fun _ _ _ ⟨K, hK, c⟩ k => ⟨K, PySem.W.Frag.In.keeps hK k, c⟩
structure TX (K : PySem.W.Frag) (mg : Str → Option Value) : Prop where
  all : obsM K = valM
  inn : ∃ h : Heap, K.In h ∧ h.Ns mainGlobals mg
section
variable {K : PySem.W.Frag} {mg : Str → Option Value}
theorem TX.says (T : TX K mg) : He.SaysD fa fn K := congrArg (fun z : AlM => z.1) T.all
theorem TX.ex (T : TX K mg) : exB K = true := congrArg (fun z : AlM => z.2) T.all
theorem TX.fact (T : TX K mg) (i : Nat) {f : He.Fa} (h : fa[i]? = some f := by rfl) : f.ok K = true := T.says.fact i h
theorem TX.glo (T : TX K mg) {x : Str} (c : (He.Fa.glo x).ok K = true) : mg x = some (.ref (He.ga K x)) := by
  obtain ⟨h, X, G⟩ := T.inn
  exact He.glo_ok X G c
theorem TX.free (T : TX K mg) {x : Str} (c : (He.Fa.free x).ok K = true) : mg x = none := by
  obtain ⟨h, X, G⟩ := T.inn
  exact He.free_ok X G c
theorem TX.int (T : TX K mg) {x : Str} {i : Int} (c : (He.Fa.int x i).ok K = true) : ∃ u, mg x = some u ∧ RelV (.int i) u := by
  obtain ⟨h, X, G⟩ := T.inn
  obtain ⟨t, e⟩ := He.int_ok X G c
  exact ⟨_, e, ⟨t, rfl⟩⟩
theorem TX.str (T : TX K mg) {x z : Str} (c : (He.Fa.str x z).ok K = true) : ∃ u, mg x = some u ∧ RelV (.str z) u := by
  obtain ⟨h, X, G⟩ := T.inn
  obtain ⟨t, e⟩ := He.str_ok X G c
  exact ⟨_, e, ⟨t, rfl⟩⟩
theorem TX.g_lines_of (T : TX K mg) : mg "lines_of" = some (.ref (He.ga K "lines_of")) := T.glo (T.fact 0)
theorem TX.g_atoms_of (T : TX K mg) : mg "atoms_of" = some (.ref (He.ga K "atoms_of")) := T.glo (T.fact 1)
theorem TX.g_aim_of (T : TX K mg) : mg "aim_of" = some (.ref (He.ga K "aim_of")) := T.glo (T.fact 2)
theorem TX.g_params_counted (T : TX K mg) : mg "params_counted" = some (.ref (He.ga K "params_counted")) := T.glo (T.fact 3)
theorem TX.g_check_line (T : TX K mg) : mg "check_line" = some (.ref (He.ga K "check_line")) := T.glo (T.fact 4)
theorem TX.g_check_block (T : TX K mg) : mg "check_block" = some (.ref (He.ga K "check_block")) := T.glo (T.fact 5)
theorem TX.g_check (T : TX K mg) : mg "check" = some (.ref (He.ga K "check")) := T.glo (T.fact 6)
theorem TX.g_op_of (T : TX K mg) : mg "op_of" = some (.ref (He.ga K "op_of")) := T.glo (T.fact 7)
theorem TX.g_made_of (T : TX K mg) : mg "made_of" = some (.ref (He.ga K "made_of")) := T.glo (T.fact 8)
theorem TX.g_is_word (T : TX K mg) : mg "is_word" = some (.ref (He.ga K "is_word")) := T.glo (T.fact 9)
theorem TX.g_is_name (T : TX K mg) : mg "is_name" = some (.ref (He.ga K "is_name")) := T.glo (T.fact 10)
theorem TX.g_number_of (T : TX K mg) : mg "number_of" = some (.ref (He.ga K "number_of")) := T.glo (T.fact 11)
theorem TX.g_value_at (T : TX K mg) : mg "value_at" = some (.ref (He.ga K "value_at")) := T.glo (T.fact 12)
theorem TX.g_row_at (T : TX K mg) : mg "row_at" = some (.ref (He.ga K "row_at")) := T.glo (T.fact 13)
theorem TX.g_record_at (T : TX K mg) : mg "record_at" = some (.ref (He.ga K "record_at")) := T.glo (T.fact 14)
theorem TX.g_read_value (T : TX K mg) : mg "read_value" = some (.ref (He.ga K "read_value")) := T.glo (T.fact 15)
theorem TX.g_name_of (T : TX K mg) : mg "name_of" = some (.ref (He.ga K "name_of")) := T.glo (T.fact 16)
theorem TX.g_read_atom (T : TX K mg) : mg "read_atom" = some (.ref (He.ga K "read_atom")) := T.glo (T.fact 17)
theorem TX.g_read_atoms (T : TX K mg) : mg "read_atoms" = some (.ref (He.ga K "read_atoms")) := T.glo (T.fact 18)
theorem TX.g_read_step (T : TX K mg) : mg "read_step" = some (.ref (He.ga K "read_step")) := T.glo (T.fact 19)
theorem TX.g_read_if (T : TX K mg) : mg "read_if" = some (.ref (He.ga K "read_if")) := T.glo (T.fact 20)
theorem TX.g_read_end (T : TX K mg) : mg "read_end" = some (.ref (He.ga K "read_end")) := T.glo (T.fact 21)
theorem TX.g_read_block (T : TX K mg) : mg "read_block" = some (.ref (He.ga K "read_block")) := T.glo (T.fact 22)
theorem TX.g_read_function (T : TX K mg) : mg "read_function" = some (.ref (He.ga K "read_function")) := T.glo (T.fact 23)
theorem TX.g_read (T : TX K mg) : mg "read" = some (.ref (He.ga K "read")) := T.glo (T.fact 24)
theorem TX.g_show_value (T : TX K mg) : mg "show_value" = some (.ref (He.ga K "show_value")) := T.glo (T.fact 25)
theorem TX.g_show_atom (T : TX K mg) : mg "show_atom" = some (.ref (He.ga K "show_atom")) := T.glo (T.fact 26)
theorem TX.g_show_words (T : TX K mg) : mg "show_words" = some (.ref (He.ga K "show_words")) := T.glo (T.fact 27)
theorem TX.g_rows_of (T : TX K mg) : mg "rows_of" = some (.ref (He.ga K "rows_of")) := T.glo (T.fact 28)
theorem TX.g_show (T : TX K mg) : mg "show" = some (.ref (He.ga K "show")) := T.glo (T.fact 29)
theorem TX.g__law_deck (T : TX K mg) : mg "_law_deck" = some (.ref (He.ga K "_law_deck")) := T.glo (T.fact 30)
theorem TX.g__law_next (T : TX K mg) : mg "_law_next" = some (.ref (He.ga K "_law_next")) := T.glo (T.fact 31)
theorem TX.g__law_number (T : TX K mg) : mg "_law_number" = some (.ref (He.ga K "_law_number")) := T.glo (T.fact 32)
theorem TX.g__law_word (T : TX K mg) : mg "_law_word" = some (.ref (He.ga K "_law_word")) := T.glo (T.fact 33)
theorem TX.g__law_value (T : TX K mg) : mg "_law_value" = some (.ref (He.ga K "_law_value")) := T.glo (T.fact 34)
theorem TX.g__law_large (T : TX K mg) : mg "_law_large" = some (.ref (He.ga K "_law_large")) := T.glo (T.fact 35)
theorem TX.g__law_text (T : TX K mg) : mg "_law_text" = some (.ref (He.ga K "_law_text")) := T.glo (T.fact 36)
theorem TX.g__law_alike (T : TX K mg) : mg "_law_alike" = some (.ref (He.ga K "_law_alike")) := T.glo (T.fact 37)
theorem TX.g__law_word_name (T : TX K mg) : mg "_law_word_name" = some (.ref (He.ga K "_law_word_name")) := T.glo (T.fact 38)
theorem TX.g__law_name (T : TX K mg) : mg "_law_name" = some (.ref (He.ga K "_law_name")) := T.glo (T.fact 39)
theorem TX.g__law_op (T : TX K mg) : mg "_law_op" = some (.ref (He.ga K "_law_op")) := T.glo (T.fact 40)
theorem TX.g__law_atom (T : TX K mg) : mg "_law_atom" = some (.ref (He.ga K "_law_atom")) := T.glo (T.fact 41)
theorem TX.g__law_atoms (T : TX K mg) : mg "_law_atoms" = some (.ref (He.ga K "_law_atoms")) := T.glo (T.fact 42)
theorem TX.g__law_step (T : TX K mg) : mg "_law_step" = some (.ref (He.ga K "_law_step")) := T.glo (T.fact 43)
theorem TX.g__law_block (T : TX K mg) : mg "_law_block" = some (.ref (He.ga K "_law_block")) := T.glo (T.fact 44)
theorem TX.g__law_heads (T : TX K mg) : mg "_law_heads" = some (.ref (He.ga K "_law_heads")) := T.glo (T.fact 45)
theorem TX.g__law_program (T : TX K mg) : mg "_law_program" = some (.ref (He.ga K "_law_program")) := T.glo (T.fact 46)
theorem TX.g__law_rows_program (T : TX K mg) : mg "_law_rows_program" = some (.ref (He.ga K "_law_rows_program")) := T.glo (T.fact 47)
theorem TX.g__law_deep_program (T : TX K mg) : mg "_law_deep_program" = some (.ref (He.ga K "_law_deep_program")) := T.glo (T.fact 48)
theorem TX.g__law_long_program (T : TX K mg) : mg "_law_long_program" = some (.ref (He.ga K "_law_long_program")) := T.glo (T.fact 49)
theorem TX.g__law_wide_program (T : TX K mg) : mg "_law_wide_program" = some (.ref (He.ga K "_law_wide_program")) := T.glo (T.fact 50)
theorem TX.g__law_branches (T : TX K mg) : mg "_law_branches" = some (.ref (He.ga K "_law_branches")) := T.glo (T.fact 51)
theorem TX.g__law_tree_program (T : TX K mg) : mg "_law_tree_program" = some (.ref (He.ga K "_law_tree_program")) := T.glo (T.fact 52)
theorem TX.g__law_any_program (T : TX K mg) : mg "_law_any_program" = some (.ref (He.ga K "_law_any_program")) := T.glo (T.fact 53)
theorem TX.g__law_atom_text (T : TX K mg) : mg "_law_atom_text" = some (.ref (He.ga K "_law_atom_text")) := T.glo (T.fact 54)
theorem TX.g__law_row_text (T : TX K mg) : mg "_law_row_text" = some (.ref (He.ga K "_law_row_text")) := T.glo (T.fact 55)
theorem TX.g__law_block_rows (T : TX K mg) : mg "_law_block_rows" = some (.ref (He.ga K "_law_block_rows")) := T.glo (T.fact 56)
theorem TX.g__law_rows (T : TX K mg) : mg "_law_rows" = some (.ref (He.ga K "_law_rows")) := T.glo (T.fact 57)
theorem TX.g_law (T : TX K mg) : mg "law" = some (.ref (He.ga K "law")) := T.glo (T.fact 58)
theorem TX.g_Add (T : TX K mg) : mg "Add" = some (.ref (He.ga K "Add")) := T.glo (T.fact 59)
theorem TX.g_Sub (T : TX K mg) : mg "Sub" = some (.ref (He.ga K "Sub")) := T.glo (T.fact 60)
theorem TX.g_Mul (T : TX K mg) : mg "Mul" = some (.ref (He.ga K "Mul")) := T.glo (T.fact 61)
theorem TX.g_Div (T : TX K mg) : mg "Div" = some (.ref (He.ga K "Div")) := T.glo (T.fact 62)
theorem TX.g_Rem (T : TX K mg) : mg "Rem" = some (.ref (He.ga K "Rem")) := T.glo (T.fact 63)
theorem TX.g_Less (T : TX K mg) : mg "Less" = some (.ref (He.ga K "Less")) := T.glo (T.fact 64)
theorem TX.g_Same (T : TX K mg) : mg "Same" = some (.ref (He.ga K "Same")) := T.glo (T.fact 65)
theorem TX.g_Down (T : TX K mg) : mg "Down" = some (.ref (He.ga K "Down")) := T.glo (T.fact 66)
theorem TX.g_KindOf (T : TX K mg) : mg "KindOf" = some (.ref (He.ga K "KindOf")) := T.glo (T.fact 67)
theorem TX.g_Front (T : TX K mg) : mg "Front" = some (.ref (He.ga K "Front")) := T.glo (T.fact 68)
theorem TX.g_Head (T : TX K mg) : mg "Head" = some (.ref (He.ga K "Head")) := T.glo (T.fact 69)
theorem TX.g_Rest (T : TX K mg) : mg "Rest" = some (.ref (He.ga K "Rest")) := T.glo (T.fact 70)
theorem TX.g_Many (T : TX K mg) : mg "Many" = some (.ref (He.ga K "Many")) := T.glo (T.fact 71)
theorem TX.g_Item (T : TX K mg) : mg "Item" = some (.ref (He.ga K "Item")) := T.glo (T.fact 72)
theorem TX.g_Put (T : TX K mg) : mg "Put" = some (.ref (He.ga K "Put")) := T.glo (T.fact 73)
theorem TX.g_Field (T : TX K mg) : mg "Field" = some (.ref (He.ga K "Field")) := T.glo (T.fact 74)
theorem TX.g_SetIn (T : TX K mg) : mg "SetIn" = some (.ref (He.ga K "SetIn")) := T.glo (T.fact 75)
theorem TX.g_Signs (T : TX K mg) : mg "Signs" = some (.ref (He.ga K "Signs")) := T.glo (T.fact 76)
theorem TX.g_Rows (T : TX K mg) : mg "Rows" = some (.ref (He.ga K "Rows")) := T.glo (T.fact 77)
theorem TX.g_Op (T : TX K mg) : mg "Op" = some (.ref (He.ga K "Op")) := T.glo (T.fact 78)
theorem TX.g_Falling (T : TX K mg) : mg "Falling" = some (.ref (He.ga K "Falling")) := T.glo (T.fact 79)
theorem TX.g_Sure (T : TX K mg) : mg "Sure" = some (.ref (He.ga K "Sure")) := T.glo (T.fact 80)
theorem TX.z_all (T : TX K mg) : mg "all" = none := T.free (T.fact 81)
theorem TX.z_bool (T : TX K mg) : mg "bool" = none := T.free (T.fact 82)
theorem TX.z_dict (T : TX K mg) : mg "dict" = none := T.free (T.fact 83)
theorem TX.z_int (T : TX K mg) : mg "int" = none := T.free (T.fact 84)
theorem TX.z_isinstance (T : TX K mg) : mg "isinstance" = none := T.free (T.fact 85)
theorem TX.z_len (T : TX K mg) : mg "len" = none := T.free (T.fact 86)
theorem TX.z_list (T : TX K mg) : mg "list" = none := T.free (T.fact 87)
theorem TX.z_max (T : TX K mg) : mg "max" = none := T.free (T.fact 88)
theorem TX.z_min (T : TX K mg) : mg "min" = none := T.free (T.fact 89)
theorem TX.z_range (T : TX K mg) : mg "range" = none := T.free (T.fact 90)
theorem TX.z_sorted (T : TX K mg) : mg "sorted" = none := T.free (T.fact 91)
theorem TX.z_str (T : TX K mg) : mg "str" = none := T.free (T.fact 92)
theorem TX.z_tuple (T : TX K mg) : mg "tuple" = none := T.free (T.fact 93)
theorem TX.z_zip (T : TX K mg) : mg "zip" = none := T.free (T.fact 94)
theorem TX.c_LETTERS (T : TX K mg) : ∃ u, mg "LETTERS" = some u ∧ RelV (.str "abcdefghijklmnopqrstuvwxyz") u := T.str (T.fact 95)
theorem TX.c_FIGURES (T : TX K mg) : ∃ u, mg "FIGURES" = some u ∧ RelV (.str "0123456789") u := T.str (T.fact 96)
theorem TX.c_MOST_SIGNS (T : TX K mg) : ∃ u, mg "MOST_SIGNS" = some u ∧ RelV (.int 8) u := T.int (T.fact 97)
theorem TX.c_MOST_FIGURES (T : TX K mg) : ∃ u, mg "MOST_FIGURES" = some u ∧ RelV (.int 18) u := T.int (T.fact 98)
theorem TX.c_MOST_PARTS (T : TX K mg) : ∃ u, mg "MOST_PARTS" = some u ∧ RelV (.int 60) u := T.int (T.fact 99)
theorem TX.c_MOST_PARAMS (T : TX K mg) : ∃ u, mg "MOST_PARAMS" = some u ∧ RelV (.int 6) u := T.int (T.fact 100)
theorem TX.c_MOST_LINES (T : TX K mg) : ∃ u, mg "MOST_LINES" = some u ∧ RelV (.int 60) u := T.int (T.fact 101)
theorem TX.c_MOST_IFS (T : TX K mg) : ∃ u, mg "MOST_IFS" = some u ∧ RelV (.int 8) u := T.int (T.fact 102)
theorem TX.c_MOST_FUNCTIONS (T : TX K mg) : ∃ u, mg "MOST_FUNCTIONS" = some u ∧ RelV (.int 200) u := T.int (T.fact 103)
theorem TX.l_Add (T : TX K mg) : Cls K (He.ga K "Add") := He.cls_ok (T.fact 104)
theorem TX.k_Add (T : TX K mg) : Mk K (He.ga K "Add") (He.ma K (He.ga K "Add") "__init__") := He.mkr_ok (T.fact 105)
theorem TX.n_Add_word (T : TX K mg) : NoAttr K (He.ga K "Add") "word" := He.noat_ok (T.fact 106)
theorem TX.n_Add_many (T : TX K mg) : NoAttr K (He.ga K "Add") "many" := He.noat_ok (T.fact 107)
theorem TX.n_Add_kinds (T : TX K mg) : NoAttr K (He.ga K "Add") "kinds" := He.noat_ok (T.fact 108)
theorem TX.l_Sub (T : TX K mg) : Cls K (He.ga K "Sub") := He.cls_ok (T.fact 109)
theorem TX.k_Sub (T : TX K mg) : Mk K (He.ga K "Sub") (He.ma K (He.ga K "Sub") "__init__") := He.mkr_ok (T.fact 110)
theorem TX.n_Sub_word (T : TX K mg) : NoAttr K (He.ga K "Sub") "word" := He.noat_ok (T.fact 111)
theorem TX.n_Sub_many (T : TX K mg) : NoAttr K (He.ga K "Sub") "many" := He.noat_ok (T.fact 112)
theorem TX.n_Sub_kinds (T : TX K mg) : NoAttr K (He.ga K "Sub") "kinds" := He.noat_ok (T.fact 113)
theorem TX.l_Mul (T : TX K mg) : Cls K (He.ga K "Mul") := He.cls_ok (T.fact 114)
theorem TX.k_Mul (T : TX K mg) : Mk K (He.ga K "Mul") (He.ma K (He.ga K "Mul") "__init__") := He.mkr_ok (T.fact 115)
theorem TX.n_Mul_word (T : TX K mg) : NoAttr K (He.ga K "Mul") "word" := He.noat_ok (T.fact 116)
theorem TX.n_Mul_many (T : TX K mg) : NoAttr K (He.ga K "Mul") "many" := He.noat_ok (T.fact 117)
theorem TX.n_Mul_kinds (T : TX K mg) : NoAttr K (He.ga K "Mul") "kinds" := He.noat_ok (T.fact 118)
theorem TX.l_Div (T : TX K mg) : Cls K (He.ga K "Div") := He.cls_ok (T.fact 119)
theorem TX.k_Div (T : TX K mg) : Mk K (He.ga K "Div") (He.ma K (He.ga K "Div") "__init__") := He.mkr_ok (T.fact 120)
theorem TX.n_Div_word (T : TX K mg) : NoAttr K (He.ga K "Div") "word" := He.noat_ok (T.fact 121)
theorem TX.n_Div_many (T : TX K mg) : NoAttr K (He.ga K "Div") "many" := He.noat_ok (T.fact 122)
theorem TX.n_Div_kinds (T : TX K mg) : NoAttr K (He.ga K "Div") "kinds" := He.noat_ok (T.fact 123)
theorem TX.l_Rem (T : TX K mg) : Cls K (He.ga K "Rem") := He.cls_ok (T.fact 124)
theorem TX.k_Rem (T : TX K mg) : Mk K (He.ga K "Rem") (He.ma K (He.ga K "Rem") "__init__") := He.mkr_ok (T.fact 125)
theorem TX.n_Rem_word (T : TX K mg) : NoAttr K (He.ga K "Rem") "word" := He.noat_ok (T.fact 126)
theorem TX.n_Rem_many (T : TX K mg) : NoAttr K (He.ga K "Rem") "many" := He.noat_ok (T.fact 127)
theorem TX.n_Rem_kinds (T : TX K mg) : NoAttr K (He.ga K "Rem") "kinds" := He.noat_ok (T.fact 128)
theorem TX.l_Less (T : TX K mg) : Cls K (He.ga K "Less") := He.cls_ok (T.fact 129)
theorem TX.k_Less (T : TX K mg) : Mk K (He.ga K "Less") (He.ma K (He.ga K "Less") "__init__") := He.mkr_ok (T.fact 130)
theorem TX.n_Less_word (T : TX K mg) : NoAttr K (He.ga K "Less") "word" := He.noat_ok (T.fact 131)
theorem TX.n_Less_many (T : TX K mg) : NoAttr K (He.ga K "Less") "many" := He.noat_ok (T.fact 132)
theorem TX.n_Less_kinds (T : TX K mg) : NoAttr K (He.ga K "Less") "kinds" := He.noat_ok (T.fact 133)
theorem TX.l_Same (T : TX K mg) : Cls K (He.ga K "Same") := He.cls_ok (T.fact 134)
theorem TX.k_Same (T : TX K mg) : Mk K (He.ga K "Same") (He.ma K (He.ga K "Same") "__init__") := He.mkr_ok (T.fact 135)
theorem TX.n_Same_word (T : TX K mg) : NoAttr K (He.ga K "Same") "word" := He.noat_ok (T.fact 136)
theorem TX.n_Same_many (T : TX K mg) : NoAttr K (He.ga K "Same") "many" := He.noat_ok (T.fact 137)
theorem TX.n_Same_kinds (T : TX K mg) : NoAttr K (He.ga K "Same") "kinds" := He.noat_ok (T.fact 138)
theorem TX.l_Down (T : TX K mg) : Cls K (He.ga K "Down") := He.cls_ok (T.fact 139)
theorem TX.k_Down (T : TX K mg) : Mk K (He.ga K "Down") (He.ma K (He.ga K "Down") "__init__") := He.mkr_ok (T.fact 140)
theorem TX.n_Down_word (T : TX K mg) : NoAttr K (He.ga K "Down") "word" := He.noat_ok (T.fact 141)
theorem TX.n_Down_many (T : TX K mg) : NoAttr K (He.ga K "Down") "many" := He.noat_ok (T.fact 142)
theorem TX.n_Down_kinds (T : TX K mg) : NoAttr K (He.ga K "Down") "kinds" := He.noat_ok (T.fact 143)
theorem TX.l_KindOf (T : TX K mg) : Cls K (He.ga K "KindOf") := He.cls_ok (T.fact 144)
theorem TX.k_KindOf (T : TX K mg) : Mk K (He.ga K "KindOf") (He.ma K (He.ga K "KindOf") "__init__") := He.mkr_ok (T.fact 145)
theorem TX.n_KindOf_word (T : TX K mg) : NoAttr K (He.ga K "KindOf") "word" := He.noat_ok (T.fact 146)
theorem TX.n_KindOf_many (T : TX K mg) : NoAttr K (He.ga K "KindOf") "many" := He.noat_ok (T.fact 147)
theorem TX.n_KindOf_kinds (T : TX K mg) : NoAttr K (He.ga K "KindOf") "kinds" := He.noat_ok (T.fact 148)
theorem TX.l_Front (T : TX K mg) : Cls K (He.ga K "Front") := He.cls_ok (T.fact 149)
theorem TX.k_Front (T : TX K mg) : Mk K (He.ga K "Front") (He.ma K (He.ga K "Front") "__init__") := He.mkr_ok (T.fact 150)
theorem TX.n_Front_word (T : TX K mg) : NoAttr K (He.ga K "Front") "word" := He.noat_ok (T.fact 151)
theorem TX.n_Front_many (T : TX K mg) : NoAttr K (He.ga K "Front") "many" := He.noat_ok (T.fact 152)
theorem TX.n_Front_kinds (T : TX K mg) : NoAttr K (He.ga K "Front") "kinds" := He.noat_ok (T.fact 153)
theorem TX.l_Head (T : TX K mg) : Cls K (He.ga K "Head") := He.cls_ok (T.fact 154)
theorem TX.k_Head (T : TX K mg) : Mk K (He.ga K "Head") (He.ma K (He.ga K "Head") "__init__") := He.mkr_ok (T.fact 155)
theorem TX.n_Head_word (T : TX K mg) : NoAttr K (He.ga K "Head") "word" := He.noat_ok (T.fact 156)
theorem TX.n_Head_many (T : TX K mg) : NoAttr K (He.ga K "Head") "many" := He.noat_ok (T.fact 157)
theorem TX.n_Head_kinds (T : TX K mg) : NoAttr K (He.ga K "Head") "kinds" := He.noat_ok (T.fact 158)
theorem TX.l_Rest (T : TX K mg) : Cls K (He.ga K "Rest") := He.cls_ok (T.fact 159)
theorem TX.k_Rest (T : TX K mg) : Mk K (He.ga K "Rest") (He.ma K (He.ga K "Rest") "__init__") := He.mkr_ok (T.fact 160)
theorem TX.n_Rest_word (T : TX K mg) : NoAttr K (He.ga K "Rest") "word" := He.noat_ok (T.fact 161)
theorem TX.n_Rest_many (T : TX K mg) : NoAttr K (He.ga K "Rest") "many" := He.noat_ok (T.fact 162)
theorem TX.n_Rest_kinds (T : TX K mg) : NoAttr K (He.ga K "Rest") "kinds" := He.noat_ok (T.fact 163)
theorem TX.l_Many (T : TX K mg) : Cls K (He.ga K "Many") := He.cls_ok (T.fact 164)
theorem TX.k_Many (T : TX K mg) : Mk K (He.ga K "Many") (He.ma K (He.ga K "Many") "__init__") := He.mkr_ok (T.fact 165)
theorem TX.n_Many_word (T : TX K mg) : NoAttr K (He.ga K "Many") "word" := He.noat_ok (T.fact 166)
theorem TX.n_Many_many (T : TX K mg) : NoAttr K (He.ga K "Many") "many" := He.noat_ok (T.fact 167)
theorem TX.n_Many_kinds (T : TX K mg) : NoAttr K (He.ga K "Many") "kinds" := He.noat_ok (T.fact 168)
theorem TX.l_Item (T : TX K mg) : Cls K (He.ga K "Item") := He.cls_ok (T.fact 169)
theorem TX.k_Item (T : TX K mg) : Mk K (He.ga K "Item") (He.ma K (He.ga K "Item") "__init__") := He.mkr_ok (T.fact 170)
theorem TX.n_Item_word (T : TX K mg) : NoAttr K (He.ga K "Item") "word" := He.noat_ok (T.fact 171)
theorem TX.n_Item_many (T : TX K mg) : NoAttr K (He.ga K "Item") "many" := He.noat_ok (T.fact 172)
theorem TX.n_Item_kinds (T : TX K mg) : NoAttr K (He.ga K "Item") "kinds" := He.noat_ok (T.fact 173)
theorem TX.l_Put (T : TX K mg) : Cls K (He.ga K "Put") := He.cls_ok (T.fact 174)
theorem TX.k_Put (T : TX K mg) : Mk K (He.ga K "Put") (He.ma K (He.ga K "Put") "__init__") := He.mkr_ok (T.fact 175)
theorem TX.n_Put_word (T : TX K mg) : NoAttr K (He.ga K "Put") "word" := He.noat_ok (T.fact 176)
theorem TX.n_Put_many (T : TX K mg) : NoAttr K (He.ga K "Put") "many" := He.noat_ok (T.fact 177)
theorem TX.n_Put_kinds (T : TX K mg) : NoAttr K (He.ga K "Put") "kinds" := He.noat_ok (T.fact 178)
theorem TX.l_Field (T : TX K mg) : Cls K (He.ga K "Field") := He.cls_ok (T.fact 179)
theorem TX.k_Field (T : TX K mg) : Mk K (He.ga K "Field") (He.ma K (He.ga K "Field") "__init__") := He.mkr_ok (T.fact 180)
theorem TX.n_Field_word (T : TX K mg) : NoAttr K (He.ga K "Field") "word" := He.noat_ok (T.fact 181)
theorem TX.n_Field_many (T : TX K mg) : NoAttr K (He.ga K "Field") "many" := He.noat_ok (T.fact 182)
theorem TX.n_Field_kinds (T : TX K mg) : NoAttr K (He.ga K "Field") "kinds" := He.noat_ok (T.fact 183)
theorem TX.l_SetIn (T : TX K mg) : Cls K (He.ga K "SetIn") := He.cls_ok (T.fact 184)
theorem TX.k_SetIn (T : TX K mg) : Mk K (He.ga K "SetIn") (He.ma K (He.ga K "SetIn") "__init__") := He.mkr_ok (T.fact 185)
theorem TX.n_SetIn_word (T : TX K mg) : NoAttr K (He.ga K "SetIn") "word" := He.noat_ok (T.fact 186)
theorem TX.n_SetIn_many (T : TX K mg) : NoAttr K (He.ga K "SetIn") "many" := He.noat_ok (T.fact 187)
theorem TX.n_SetIn_kinds (T : TX K mg) : NoAttr K (He.ga K "SetIn") "kinds" := He.noat_ok (T.fact 188)
theorem TX.l_Signs (T : TX K mg) : Cls K (He.ga K "Signs") := He.cls_ok (T.fact 189)
theorem TX.k_Signs (T : TX K mg) : Mk K (He.ga K "Signs") (He.ma K (He.ga K "Signs") "__init__") := He.mkr_ok (T.fact 190)
theorem TX.n_Signs_text (T : TX K mg) : NoAttr K (He.ga K "Signs") "text" := He.noat_ok (T.fact 191)
theorem TX.n_Signs_at (T : TX K mg) : NoAttr K (He.ga K "Signs") "at" := He.noat_ok (T.fact 192)
theorem TX.n_Signs_room (T : TX K mg) : NoAttr K (He.ga K "Signs") "room" := He.noat_ok (T.fact 193)
theorem TX.t_Signs_take (T : TX K mg) : Meth K (He.ga K "Signs") "take" (He.ma K (He.ga K "Signs") "take") := He.meth_ok (T.fact 194)
theorem TX.t_Signs_piece (T : TX K mg) : Meth K (He.ga K "Signs") "piece" (He.ma K (He.ga K "Signs") "piece") := He.meth_ok (T.fact 195)
theorem TX.t_Signs_next_word (T : TX K mg) : Meth K (He.ga K "Signs") "next_word" (He.ma K (He.ga K "Signs") "next_word") := He.meth_ok (T.fact 196)
theorem TX.t_Signs_more (T : TX K mg) : Meth K (He.ga K "Signs") "more" (He.ma K (He.ga K "Signs") "more") := He.meth_ok (T.fact 197)
theorem TX.l_Rows (T : TX K mg) : Cls K (He.ga K "Rows") := He.cls_ok (T.fact 198)
theorem TX.k_Rows (T : TX K mg) : Mk K (He.ga K "Rows") (He.ma K (He.ga K "Rows") "__init__") := He.mkr_ok (T.fact 199)
theorem TX.n_Rows_rows (T : TX K mg) : NoAttr K (He.ga K "Rows") "rows" := He.noat_ok (T.fact 200)
theorem TX.n_Rows_next_row (T : TX K mg) : NoAttr K (He.ga K "Rows") "next_row" := He.noat_ok (T.fact 201)
theorem TX.t_Rows_done (T : TX K mg) : Meth K (He.ga K "Rows") "done" (He.ma K (He.ga K "Rows") "done") := He.meth_ok (T.fact 202)
theorem TX.t_Rows_words (T : TX K mg) : Meth K (He.ga K "Rows") "words" (He.ma K (He.ga K "Rows") "words") := He.meth_ok (T.fact 203)
theorem TX.f_lines_of (T : TX K mg) : ∃ fd, FunD K "lines_of" "lines_of" (defArgs s_lines_of) (defBody s_lines_of) (defScope s_lines_of) [] [] (He.ga K "lines_of") fd := T.says.def_ 0 (d := d_lines_of)
theorem TX.f_atoms_of (T : TX K mg) : ∃ fd, FunD K "atoms_of" "atoms_of" (defArgs s_atoms_of) (defBody s_atoms_of) (defScope s_atoms_of) [] [] (He.ga K "atoms_of") fd := T.says.def_ 1 (d := d_atoms_of)
theorem TX.f_aim_of (T : TX K mg) : ∃ fd, FunD K "aim_of" "aim_of" (defArgs s_aim_of) (defBody s_aim_of) (defScope s_aim_of) [] [] (He.ga K "aim_of") fd := T.says.def_ 2 (d := d_aim_of)
theorem TX.f_params_counted (T : TX K mg) : ∃ fd, FunD K "params_counted" "params_counted" (defArgs s_params_counted) (defBody s_params_counted) (defScope s_params_counted) [] [] (He.ga K "params_counted") fd := T.says.def_ 3 (d := d_params_counted)
theorem TX.f_check_line (T : TX K mg) : ∃ fd, FunD K "check_line" "check_line" (defArgs s_check_line) (defBody s_check_line) (defScope s_check_line) [] [] (He.ga K "check_line") fd := T.says.def_ 4 (d := d_check_line)
theorem TX.f_check_block (T : TX K mg) : ∃ fd, FunD K "check_block" "check_block" (defArgs s_check_block) (defBody s_check_block) (defScope s_check_block) [] [] (He.ga K "check_block") fd := T.says.def_ 5 (d := d_check_block)
theorem TX.f_check (T : TX K mg) : ∃ fd, FunD K "check" "check" (defArgs s_check) (defBody s_check) (defScope s_check) [] [] (He.ga K "check") fd := T.says.def_ 6 (d := d_check)
theorem TX.f_Op_init (T : TX K mg) : ∃ fd, FunD K "__init__" "Op.__init__" (defArgs s_Op_init) (defBody s_Op_init) (defScope s_Op_init) [] [] (He.ma K (He.ga K "Op") "__init__") fd := T.says.def_ 7 (d := d_Op_init)
theorem TX.f_Add_init (T : TX K mg) : ∃ fd, FunD K "__init__" "Add.__init__" (defArgs s_Add_init) (defBody s_Add_init) (defScope s_Add_init) [] [] (He.ma K (He.ga K "Add") "__init__") fd := T.says.def_ 8 (d := d_Add_init)
theorem TX.f_Sub_init (T : TX K mg) : ∃ fd, FunD K "__init__" "Sub.__init__" (defArgs s_Sub_init) (defBody s_Sub_init) (defScope s_Sub_init) [] [] (He.ma K (He.ga K "Sub") "__init__") fd := T.says.def_ 9 (d := d_Sub_init)
theorem TX.f_Mul_init (T : TX K mg) : ∃ fd, FunD K "__init__" "Mul.__init__" (defArgs s_Mul_init) (defBody s_Mul_init) (defScope s_Mul_init) [] [] (He.ma K (He.ga K "Mul") "__init__") fd := T.says.def_ 10 (d := d_Mul_init)
theorem TX.f_Div_init (T : TX K mg) : ∃ fd, FunD K "__init__" "Div.__init__" (defArgs s_Div_init) (defBody s_Div_init) (defScope s_Div_init) [] [] (He.ma K (He.ga K "Div") "__init__") fd := T.says.def_ 11 (d := d_Div_init)
theorem TX.f_Rem_init (T : TX K mg) : ∃ fd, FunD K "__init__" "Rem.__init__" (defArgs s_Rem_init) (defBody s_Rem_init) (defScope s_Rem_init) [] [] (He.ma K (He.ga K "Rem") "__init__") fd := T.says.def_ 12 (d := d_Rem_init)
theorem TX.f_Less_init (T : TX K mg) : ∃ fd, FunD K "__init__" "Less.__init__" (defArgs s_Less_init) (defBody s_Less_init) (defScope s_Less_init) [] [] (He.ma K (He.ga K "Less") "__init__") fd := T.says.def_ 13 (d := d_Less_init)
theorem TX.f_Same_init (T : TX K mg) : ∃ fd, FunD K "__init__" "Same.__init__" (defArgs s_Same_init) (defBody s_Same_init) (defScope s_Same_init) [] [] (He.ma K (He.ga K "Same") "__init__") fd := T.says.def_ 14 (d := d_Same_init)
theorem TX.f_Down_init (T : TX K mg) : ∃ fd, FunD K "__init__" "Down.__init__" (defArgs s_Down_init) (defBody s_Down_init) (defScope s_Down_init) [] [] (He.ma K (He.ga K "Down") "__init__") fd := T.says.def_ 15 (d := d_Down_init)
theorem TX.f_KindOf_init (T : TX K mg) : ∃ fd, FunD K "__init__" "KindOf.__init__" (defArgs s_KindOf_init) (defBody s_KindOf_init) (defScope s_KindOf_init) [] [] (He.ma K (He.ga K "KindOf") "__init__") fd := T.says.def_ 16 (d := d_KindOf_init)
theorem TX.f_Front_init (T : TX K mg) : ∃ fd, FunD K "__init__" "Front.__init__" (defArgs s_Front_init) (defBody s_Front_init) (defScope s_Front_init) [] [] (He.ma K (He.ga K "Front") "__init__") fd := T.says.def_ 17 (d := d_Front_init)
theorem TX.f_Head_init (T : TX K mg) : ∃ fd, FunD K "__init__" "Head.__init__" (defArgs s_Head_init) (defBody s_Head_init) (defScope s_Head_init) [] [] (He.ma K (He.ga K "Head") "__init__") fd := T.says.def_ 18 (d := d_Head_init)
theorem TX.f_Rest_init (T : TX K mg) : ∃ fd, FunD K "__init__" "Rest.__init__" (defArgs s_Rest_init) (defBody s_Rest_init) (defScope s_Rest_init) [] [] (He.ma K (He.ga K "Rest") "__init__") fd := T.says.def_ 19 (d := d_Rest_init)
theorem TX.f_Many_init (T : TX K mg) : ∃ fd, FunD K "__init__" "Many.__init__" (defArgs s_Many_init) (defBody s_Many_init) (defScope s_Many_init) [] [] (He.ma K (He.ga K "Many") "__init__") fd := T.says.def_ 20 (d := d_Many_init)
theorem TX.f_Item_init (T : TX K mg) : ∃ fd, FunD K "__init__" "Item.__init__" (defArgs s_Item_init) (defBody s_Item_init) (defScope s_Item_init) [] [] (He.ma K (He.ga K "Item") "__init__") fd := T.says.def_ 21 (d := d_Item_init)
theorem TX.f_Put_init (T : TX K mg) : ∃ fd, FunD K "__init__" "Put.__init__" (defArgs s_Put_init) (defBody s_Put_init) (defScope s_Put_init) [] [] (He.ma K (He.ga K "Put") "__init__") fd := T.says.def_ 22 (d := d_Put_init)
theorem TX.f_Field_init (T : TX K mg) : ∃ fd, FunD K "__init__" "Field.__init__" (defArgs s_Field_init) (defBody s_Field_init) (defScope s_Field_init) [] [] (He.ma K (He.ga K "Field") "__init__") fd := T.says.def_ 23 (d := d_Field_init)
theorem TX.f_SetIn_init (T : TX K mg) : ∃ fd, FunD K "__init__" "SetIn.__init__" (defArgs s_SetIn_init) (defBody s_SetIn_init) (defScope s_SetIn_init) [] [] (He.ma K (He.ga K "SetIn") "__init__") fd := T.says.def_ 24 (d := d_SetIn_init)
theorem TX.f_op_of (T : TX K mg) : ∃ fd, FunD K "op_of" "op_of" (defArgs s_op_of) (defBody s_op_of) (defScope s_op_of) [] [] (He.ga K "op_of") fd := T.says.def_ 25 (d := d_op_of)
theorem TX.f_made_of (T : TX K mg) : ∃ fd, FunD K "made_of" "made_of" (defArgs s_made_of) (defBody s_made_of) (defScope s_made_of) [] [] (He.ga K "made_of") fd := T.says.def_ 26 (d := d_made_of)
theorem TX.f_is_word (T : TX K mg) : ∃ fd, FunD K "is_word" "is_word" (defArgs s_is_word) (defBody s_is_word) (defScope s_is_word) [] [] (He.ga K "is_word") fd := T.says.def_ 27 (d := d_is_word)
theorem TX.f_is_name (T : TX K mg) : ∃ fd, FunD K "is_name" "is_name" (defArgs s_is_name) (defBody s_is_name) (defScope s_is_name) [] [] (He.ga K "is_name") fd := T.says.def_ 28 (d := d_is_name)
theorem TX.f_number_of (T : TX K mg) : ∃ fd, FunD K "number_of" "number_of" (defArgs s_number_of) (defBody s_number_of) (defScope s_number_of) [] [] (He.ga K "number_of") fd := T.says.def_ 29 (d := d_number_of)
theorem TX.f_Signs_init (T : TX K mg) : ∃ fd, FunD K "__init__" "Signs.__init__" (defArgs s_Signs_init) (defBody s_Signs_init) (defScope s_Signs_init) [] [] (He.ma K (He.ga K "Signs") "__init__") fd := T.says.def_ 30 (d := d_Signs_init)
theorem TX.f_Signs_take (T : TX K mg) : ∃ fd, FunD K "take" "Signs.take" (defArgs s_Signs_take) (defBody s_Signs_take) (defScope s_Signs_take) [] [] (He.ma K (He.ga K "Signs") "take") fd := T.says.def_ 31 (d := d_Signs_take)
theorem TX.f_Signs_piece (T : TX K mg) : ∃ fd, FunD K "piece" "Signs.piece" (defArgs s_Signs_piece) (defBody s_Signs_piece) (defScope s_Signs_piece) [] [] (He.ma K (He.ga K "Signs") "piece") fd := T.says.def_ 32 (d := d_Signs_piece)
theorem TX.f_Signs_next_word (T : TX K mg) : ∃ fd, FunD K "next_word" "Signs.next_word" (defArgs s_Signs_next_word) (defBody s_Signs_next_word) (defScope s_Signs_next_word) [] [] (He.ma K (He.ga K "Signs") "next_word") fd := T.says.def_ 33 (d := d_Signs_next_word)
theorem TX.f_Signs_more (T : TX K mg) : ∃ fd, FunD K "more" "Signs.more" (defArgs s_Signs_more) (defBody s_Signs_more) (defScope s_Signs_more) [] [] (He.ma K (He.ga K "Signs") "more") fd := T.says.def_ 34 (d := d_Signs_more)
theorem TX.f_value_at (T : TX K mg) : ∃ fd, FunD K "value_at" "value_at" (defArgs s_value_at) (defBody s_value_at) (defScope s_value_at) [] [] (He.ga K "value_at") fd := T.says.def_ 35 (d := d_value_at)
theorem TX.f_row_at (T : TX K mg) : ∃ fd, FunD K "row_at" "row_at" (defArgs s_row_at) (defBody s_row_at) (defScope s_row_at) [] [] (He.ga K "row_at") fd := T.says.def_ 36 (d := d_row_at)
theorem TX.f_record_at (T : TX K mg) : ∃ fd, FunD K "record_at" "record_at" (defArgs s_record_at) (defBody s_record_at) (defScope s_record_at) [] [] (He.ga K "record_at") fd := T.says.def_ 37 (d := d_record_at)
theorem TX.f_read_value (T : TX K mg) : ∃ fd, FunD K "read_value" "read_value" (defArgs s_read_value) (defBody s_read_value) (defScope s_read_value) [] [] (He.ga K "read_value") fd := T.says.def_ 38 (d := d_read_value)
theorem TX.f_Rows_init (T : TX K mg) : ∃ fd, FunD K "__init__" "Rows.__init__" (defArgs s_Rows_init) (defBody s_Rows_init) (defScope s_Rows_init) [] [] (He.ma K (He.ga K "Rows") "__init__") fd := T.says.def_ 39 (d := d_Rows_init)
theorem TX.f_Rows_done (T : TX K mg) : ∃ fd, FunD K "done" "Rows.done" (defArgs s_Rows_done) (defBody s_Rows_done) (defScope s_Rows_done) [] [] (He.ma K (He.ga K "Rows") "done") fd := T.says.def_ 40 (d := d_Rows_done)
theorem TX.f_Rows_words (T : TX K mg) : ∃ fd, FunD K "words" "Rows.words" (defArgs s_Rows_words) (defBody s_Rows_words) (defScope s_Rows_words) [] [] (He.ma K (He.ga K "Rows") "words") fd := T.says.def_ 41 (d := d_Rows_words)
theorem TX.f_name_of (T : TX K mg) : ∃ fd, FunD K "name_of" "name_of" (defArgs s_name_of) (defBody s_name_of) (defScope s_name_of) [] [] (He.ga K "name_of") fd := T.says.def_ 42 (d := d_name_of)
theorem TX.f_read_atom (T : TX K mg) : ∃ fd, FunD K "read_atom" "read_atom" (defArgs s_read_atom) (defBody s_read_atom) (defScope s_read_atom) [] [] (He.ga K "read_atom") fd := T.says.def_ 43 (d := d_read_atom)
theorem TX.f_read_atoms (T : TX K mg) : ∃ fd, FunD K "read_atoms" "read_atoms" (defArgs s_read_atoms) (defBody s_read_atoms) (defScope s_read_atoms) [] [] (He.ga K "read_atoms") fd := T.says.def_ 44 (d := d_read_atoms)
theorem TX.f_read_step (T : TX K mg) : ∃ fd, FunD K "read_step" "read_step" (defArgs s_read_step) (defBody s_read_step) (defScope s_read_step) [] [] (He.ga K "read_step") fd := T.says.def_ 45 (d := d_read_step)
theorem TX.f_read_if (T : TX K mg) : ∃ fd, FunD K "read_if" "read_if" (defArgs s_read_if) (defBody s_read_if) (defScope s_read_if) [] [] (He.ga K "read_if") fd := T.says.def_ 46 (d := d_read_if)
theorem TX.f_read_end (T : TX K mg) : ∃ fd, FunD K "read_end" "read_end" (defArgs s_read_end) (defBody s_read_end) (defScope s_read_end) [] [] (He.ga K "read_end") fd := T.says.def_ 47 (d := d_read_end)
theorem TX.f_read_block (T : TX K mg) : ∃ fd, FunD K "read_block" "read_block" (defArgs s_read_block) (defBody s_read_block) (defScope s_read_block) [] [] (He.ga K "read_block") fd := T.says.def_ 48 (d := d_read_block)
theorem TX.f_read_function (T : TX K mg) : ∃ fd, FunD K "read_function" "read_function" (defArgs s_read_function) (defBody s_read_function) (defScope s_read_function) [] [] (He.ga K "read_function") fd := T.says.def_ 49 (d := d_read_function)
theorem TX.f_read (T : TX K mg) : ∃ fd, FunD K "read" "read" (defArgs s_read) (defBody s_read) (defScope s_read) [] [] (He.ga K "read") fd := T.says.def_ 50 (d := d_read)
theorem TX.f_show_value (T : TX K mg) : ∃ fd, FunD K "show_value" "show_value" (defArgs s_show_value) (defBody s_show_value) (defScope s_show_value) [] [] (He.ga K "show_value") fd := T.says.def_ 51 (d := d_show_value)
theorem TX.f_show_atom (T : TX K mg) : ∃ fd, FunD K "show_atom" "show_atom" (defArgs s_show_atom) (defBody s_show_atom) (defScope s_show_atom) [] [] (He.ga K "show_atom") fd := T.says.def_ 52 (d := d_show_atom)
theorem TX.f_show_words (T : TX K mg) : ∃ fd, FunD K "show_words" "show_words" (defArgs s_show_words) (defBody s_show_words) (defScope s_show_words) [] [] (He.ga K "show_words") fd := T.says.def_ 53 (d := d_show_words)
theorem TX.f_rows_of (T : TX K mg) : ∃ fd, FunD K "rows_of" "rows_of" (defArgs s_rows_of) (defBody s_rows_of) (defScope s_rows_of) [] [] (He.ga K "rows_of") fd := T.says.def_ 54 (d := d_rows_of)
theorem TX.f_show (T : TX K mg) : ∃ fd, FunD K "show" "show" (defArgs s_show) (defBody s_show) (defScope s_show) [] [] (He.ga K "show") fd := T.says.def_ 55 (d := d_show)
theorem TX.f_g_deck (T : TX K mg) : ∃ fd, FunD K "_law_deck" "_law_deck" (defArgs s_g_deck) (defBody s_g_deck) (defScope s_g_deck) [] [] (He.ga K "_law_deck") fd := T.says.def_ 56 (d := d_g_deck)
theorem TX.f_g_next (T : TX K mg) : ∃ fd, FunD K "_law_next" "_law_next" (defArgs s_g_next) (defBody s_g_next) (defScope s_g_next) [] [] (He.ga K "_law_next") fd := T.says.def_ 57 (d := d_g_next)
theorem TX.f_g_number (T : TX K mg) : ∃ fd, FunD K "_law_number" "_law_number" (defArgs s_g_number) (defBody s_g_number) (defScope s_g_number) [] [] (He.ga K "_law_number") fd := T.says.def_ 58 (d := d_g_number)
theorem TX.f_g_word (T : TX K mg) : ∃ fd, FunD K "_law_word" "_law_word" (defArgs s_g_word) (defBody s_g_word) (defScope s_g_word) [] [] (He.ga K "_law_word") fd := T.says.def_ 59 (d := d_g_word)
theorem TX.f_g_value (T : TX K mg) : ∃ fd, FunD K "_law_value" "_law_value" (defArgs s_g_value) (defBody s_g_value) (defScope s_g_value) [] [] (He.ga K "_law_value") fd := T.says.def_ 60 (d := d_g_value)
theorem TX.f_g_large (T : TX K mg) : ∃ fd, FunD K "_law_large" "_law_large" (defArgs s_g_large) (defBody s_g_large) (defScope s_g_large) [] [] (He.ga K "_law_large") fd := T.says.def_ 61 (d := d_g_large)
theorem TX.f_g_text (T : TX K mg) : ∃ fd, FunD K "_law_text" "_law_text" (defArgs s_g_text) (defBody s_g_text) (defScope s_g_text) [] [] (He.ga K "_law_text") fd := T.says.def_ 62 (d := d_g_text)
theorem TX.f_g_alike (T : TX K mg) : ∃ fd, FunD K "_law_alike" "_law_alike" (defArgs s_g_alike) (defBody s_g_alike) (defScope s_g_alike) [] [] (He.ga K "_law_alike") fd := T.says.def_ 63 (d := d_g_alike)
theorem TX.f_g_word_name (T : TX K mg) : ∃ fd, FunD K "_law_word_name" "_law_word_name" (defArgs s_g_word_name) (defBody s_g_word_name) (defScope s_g_word_name) [] [] (He.ga K "_law_word_name") fd := T.says.def_ 64 (d := d_g_word_name)
theorem TX.f_g_name (T : TX K mg) : ∃ fd, FunD K "_law_name" "_law_name" (defArgs s_g_name) (defBody s_g_name) (defScope s_g_name) [] [] (He.ga K "_law_name") fd := T.says.def_ 65 (d := d_g_name)
theorem TX.f_g_op (T : TX K mg) : ∃ fd, FunD K "_law_op" "_law_op" (defArgs s_g_op) (defBody s_g_op) (defScope s_g_op) [] [] (He.ga K "_law_op") fd := T.says.def_ 66 (d := d_g_op)
theorem TX.f_g_atom (T : TX K mg) : ∃ fd, FunD K "_law_atom" "_law_atom" (defArgs s_g_atom) (defBody s_g_atom) (defScope s_g_atom) [] [] (He.ga K "_law_atom") fd := T.says.def_ 67 (d := d_g_atom)
theorem TX.f_g_atoms (T : TX K mg) : ∃ fd, FunD K "_law_atoms" "_law_atoms" (defArgs s_g_atoms) (defBody s_g_atoms) (defScope s_g_atoms) [] [] (He.ga K "_law_atoms") fd := T.says.def_ 68 (d := d_g_atoms)
theorem TX.f_g_step (T : TX K mg) : ∃ fd, FunD K "_law_step" "_law_step" (defArgs s_g_step) (defBody s_g_step) (defScope s_g_step) [] [] (He.ga K "_law_step") fd := T.says.def_ 69 (d := d_g_step)
theorem TX.f_g_block (T : TX K mg) : ∃ fd, FunD K "_law_block" "_law_block" (defArgs s_g_block) (defBody s_g_block) (defScope s_g_block) [] [] (He.ga K "_law_block") fd := T.says.def_ 70 (d := d_g_block)
theorem TX.f_g_heads (T : TX K mg) : ∃ fd, FunD K "_law_heads" "_law_heads" (defArgs s_g_heads) (defBody s_g_heads) (defScope s_g_heads) [] [] (He.ga K "_law_heads") fd := T.says.def_ 71 (d := d_g_heads)
theorem TX.f_g_program (T : TX K mg) : ∃ fd, FunD K "_law_program" "_law_program" (defArgs s_g_program) (defBody s_g_program) (defScope s_g_program) [] [] (He.ga K "_law_program") fd := T.says.def_ 72 (d := d_g_program)
theorem TX.f_g_rows_program (T : TX K mg) : ∃ fd, FunD K "_law_rows_program" "_law_rows_program" (defArgs s_g_rows_program) (defBody s_g_rows_program) (defScope s_g_rows_program) [] [] (He.ga K "_law_rows_program") fd := T.says.def_ 73 (d := d_g_rows_program)
theorem TX.f_g_deep_program (T : TX K mg) : ∃ fd, FunD K "_law_deep_program" "_law_deep_program" (defArgs s_g_deep_program) (defBody s_g_deep_program) (defScope s_g_deep_program) [] [] (He.ga K "_law_deep_program") fd := T.says.def_ 74 (d := d_g_deep_program)
theorem TX.f_g_long_program (T : TX K mg) : ∃ fd, FunD K "_law_long_program" "_law_long_program" (defArgs s_g_long_program) (defBody s_g_long_program) (defScope s_g_long_program) [] [] (He.ga K "_law_long_program") fd := T.says.def_ 75 (d := d_g_long_program)
theorem TX.f_g_wide_program (T : TX K mg) : ∃ fd, FunD K "_law_wide_program" "_law_wide_program" (defArgs s_g_wide_program) (defBody s_g_wide_program) (defScope s_g_wide_program) [] [] (He.ga K "_law_wide_program") fd := T.says.def_ 76 (d := d_g_wide_program)
theorem TX.f_g_branches (T : TX K mg) : ∃ fd, FunD K "_law_branches" "_law_branches" (defArgs s_g_branches) (defBody s_g_branches) (defScope s_g_branches) [] [] (He.ga K "_law_branches") fd := T.says.def_ 77 (d := d_g_branches)
theorem TX.f_g_tree_program (T : TX K mg) : ∃ fd, FunD K "_law_tree_program" "_law_tree_program" (defArgs s_g_tree_program) (defBody s_g_tree_program) (defScope s_g_tree_program) [] [] (He.ga K "_law_tree_program") fd := T.says.def_ 78 (d := d_g_tree_program)
theorem TX.f_g_any_program (T : TX K mg) : ∃ fd, FunD K "_law_any_program" "_law_any_program" (defArgs s_g_any_program) (defBody s_g_any_program) (defScope s_g_any_program) [] [] (He.ga K "_law_any_program") fd := T.says.def_ 79 (d := d_g_any_program)
theorem TX.f_g_atom_text (T : TX K mg) : ∃ fd, FunD K "_law_atom_text" "_law_atom_text" (defArgs s_g_atom_text) (defBody s_g_atom_text) (defScope s_g_atom_text) [] [] (He.ga K "_law_atom_text") fd := T.says.def_ 80 (d := d_g_atom_text)
theorem TX.f_g_row_text (T : TX K mg) : ∃ fd, FunD K "_law_row_text" "_law_row_text" (defArgs s_g_row_text) (defBody s_g_row_text) (defScope s_g_row_text) [] [] (He.ga K "_law_row_text") fd := T.says.def_ 81 (d := d_g_row_text)
theorem TX.f_g_block_rows (T : TX K mg) : ∃ fd, FunD K "_law_block_rows" "_law_block_rows" (defArgs s_g_block_rows) (defBody s_g_block_rows) (defScope s_g_block_rows) [] [] (He.ga K "_law_block_rows") fd := T.says.def_ 82 (d := d_g_block_rows)
theorem TX.f_g_rows (T : TX K mg) : ∃ fd, FunD K "_law_rows" "_law_rows" (defArgs s_g_rows) (defBody s_g_rows) (defScope s_g_rows) [] [] (He.ga K "_law_rows") fd := T.says.def_ 83 (d := d_g_rows)
theorem TX.f_law (T : TX K mg) : ∃ fd, FunD K "law" "law" (defArgs s_law) (defBody s_law) (defScope s_law) [] [] (He.ga K "law") fd := T.says.def_ 84 (d := d_law)

end
/-! ### a def and its promise -/
section
variable {P : Program} {w : World} {K : PySem.W.Frag} {mg : Str → Option Value} {base : Heap}
theorem fnok {x qual : Str} {st : Stmt} {f : Addr} {fd : FuncData} {N ps : List Str} {k : Nat} {sp : Sp} (F : FunD K x qual (defArgs st) (defBody st) (defScope st) [] [] f fd) (S : FnScope N ps (defScope st)) (len : ∀ vs H Q E, sp vs H Q E → vs.length = ps.length)
    (hbody : ∀ (cdv : Value) (A : Around) (outer : List Env) (s : Shared) (H : Hp) (vs : List V) (Q : VK) (E : XK), Room k (A.deeper (envOfC qual (defScope st) s.heap.objs.size f cdv)) → sp vs H Q E →
      ∃ t, PSs (cxOf C8.CX0 P w K mg base N qual (defScope st) f cdv A outer s H E).nox (defBody st) t ∧ t { nx := fun _ H' => Q .non H', rt := Q } (start N vs) H) : FnOk P w K mg base C8.CX0 (k + 1) f fd ps sp :=
  F.ok S len fun cdv A outer s H vs Q E hr hsp => by
    obtain ⟨t, h, q⟩ := hbody cdv A outer s H vs Q E hr hsp
    exact ⟨t, h.nox, q⟩
/-- a def of the module -/
theorem cal_of {x : Str} {st : Stmt} {f : Addr} {N ps : List Str} {k : Nat} {sp : Sp} (F : ∃ fd, FunD K x x (defArgs st) (defBody st) (defScope st) [] [] f fd) (hm : mg x = some (.ref f)) (S : FnScope N ps (defScope st))
    (b : ∀ (kV doc pm : Value) (an : Option Addr) (cdv ct : Value) (us : List Value), us.length = ps.length → bindArgs (PySem.W.fnOf x x (defArgs st) (defBody st) (defScope st) .none kV doc pm an cdv ct) ⟨us, []⟩ = pure (ps.zip us))
    (len : ∀ vs H Q E, sp vs H Q E → vs.length = ps.length)
    (hbody : ∀ (cdv : Value) (A : Around) (outer : List Env) (s : Shared) (H : Hp) (vs : List V) (Q : VK) (E : XK), Room k (A.deeper (envOfC x (defScope st) s.heap.objs.size f cdv)) → sp vs H Q E →
      ∃ t, PSs (cxOf C8.CX0 P w K mg base N x (defScope st) f cdv A outer s H E).nox (defBody st) t ∧ t { nx := fun _ H' => Q .non H', rt := Q } (start N vs) H) : C8.Cal P w K mg base (k + 1) x sp [] := by
  obtain ⟨fd, F⟩ := F
  exact ⟨f, fd, ps, [], fnok F S len hbody, hm, F.kp, F.bindsN b, .nil⟩
/-- a method -/
theorem met_of {m qual : Str} {C : Addr} {st : Stmt} {f : Addr} {N ps : List Str} {k : Nat} {sp : Sp} (F : ∃ fd, FunD K m qual (defArgs st) (defBody st) (defScope st) [] [] f fd) (c : Cls K C) (me : Meth K C m f) (S : FnScope N ps (defScope st))
    (b : ∀ (kV doc pm : Value) (an : Option Addr) (cdv ct : Value) (us : List Value), us.length = ps.length → bindArgs (PySem.W.fnOf m qual (defArgs st) (defBody st) (defScope st) .none kV doc pm an cdv ct) ⟨us, []⟩ = pure (ps.zip us))
    (len : ∀ vs H Q E, sp vs H Q E → vs.length = ps.length)
    (hbody : ∀ (cdv : Value) (A : Around) (outer : List Env) (s : Shared) (H : Hp) (vs : List V) (Q : VK) (E : XK), Room k (A.deeper (envOfC qual (defScope st) s.heap.objs.size f cdv)) → sp vs H Q E →
      ∃ t, PSs (cxOf C8.CX0 P w K mg base N qual (defScope st) f cdv A outer s H E).nox (defBody st) t ∧ t { nx := fun _ H' => Q .non H', rt := Q } (start N vs) H) : C8.Met P w K mg base (k + 1) C m sp [] := by
  obtain ⟨fd, F⟩ := F
  exact ⟨f, fd, ps, [], c, me, fnok F S len hbody, F.bindsN b, .nil⟩
/-- a class that is made -/
theorem mak_of {x qual : Str} {C : Addr} {st : Stmt} {f : Addr} {N ps : List Str} {k : Nat} {sp : Sp} (F : ∃ fd, FunD K "__init__" qual (defArgs st) (defBody st) (defScope st) [] [] f fd) (M : Mk K C f) (hm : mg x = some (.ref C)) (S : FnScope N ps (defScope st))
    (b : ∀ (kV doc pm : Value) (an : Option Addr) (cdv ct : Value) (us : List Value), us.length = ps.length → bindArgs (PySem.W.fnOf "__init__" qual (defArgs st) (defBody st) (defScope st) .none kV doc pm an cdv ct) ⟨us, []⟩ = pure (ps.zip us))
    (len : ∀ vs H Q E, sp vs H Q E → vs.length = ps.length)
    (hbody : ∀ (cdv : Value) (A : Around) (outer : List Env) (s : Shared) (H : Hp) (vs : List V) (Q : VK) (E : XK), Room k (A.deeper (envOfC qual (defScope st) s.heap.objs.size f cdv)) → sp vs H Q E →
      ∃ t, PSs (cxOf C8.CX0 P w K mg base N qual (defScope st) f cdv A outer s H E).nox (defBody st) t ∧ t { nx := fun _ H' => Q .non H', rt := Q } (start N vs) H) : C8.Mak P w K mg base (k + 1) x C sp [] := by
  obtain ⟨fd, F⟩ := F
  exact ⟨f, fd, ps, [], M, fnok F S len hbody, hm, F.bindsN b, .nil⟩
end
end FK
/-! FKR -/
set_option maxHeartbeats 0
namespace FK
open PySem PySem.W PySem.Calls PyProof.Rows
/-! ### the head: two runs of the top -/
abbrev R : PySem.W.OpenRow := PySem.W.OpenLaw.row RW
abbrev qv : Program := PySem.W.view R.prog [104]
def obM (s : PySem.W.SharedT) : AlM := obsM (frM (HandSHeadRun.getT s))
theorem obM_eq (s : PySem.W.SharedT) : obM s = hookM.obs s.abs := by
  have e : HandSHeadRun.getT s = s.abs.heap.get? := funext (HandSHeadRun.getT_eq s)
  show obsM (frM (HandSHeadRun.getT s)) = obsM (frM s.abs.heap.get?)
  rw [e]
theorem runEq_of {r : PySem.W.OpenRow} {q : Program} {H : PySem.W.Hook} {ob : PySem.W.SharedT → H.α} {M : Nat} {loose : List PySem.Str} {w : World}
    (hA : ∀ os : OsState, (HandSHeadRun.endF (HandSHeadRun.stepQ (HandSHeadRun.denQ HandSHeadRun.tabQ) r.prog w) M r.prog w os).map (fun s => (HandSHeadRun.looksF r.prog (boot_heap w.params) s.abs, HandSHeadRun.seenQ q loose (importedModules r.prog.main.body) (fun s => xlAt q [] s && recOk r.toRowW.records s) s.abs)) = some (true, openGood q loose))
    (hB : ∀ os : OsState, (HandSHeadRun.endF (HandSHeadRun.stepQ (HandSHeadRun.denQ HandSHeadRun.tabQ) r.prog w) M r.prog w os).map ob = some (H.val w)) : HandSHeadRun.RunEq r q H ob M loose w := by
  intro os
  have a := hA os
  have b := hB os
  cases e : HandSHeadRun.endF (HandSHeadRun.stepQ (HandSHeadRun.denQ HandSHeadRun.tabQ) r.prog w) M r.prog w os with
  | none => rw [e] at a; cases a
  | some s =>
    rw [e] at a b
    have e1 := Option.some.inj a
    have e2 := Option.some.inj b
    obtain ⟨e3, e4⟩ := Prod.mk.inj e1
    show some (HandSHeadRun.looksF r.prog (boot_heap w.params) s.abs, HandSHeadRun.seenQ q loose (importedModules r.prog.main.body) (fun s => xlAt q [] s && recOk r.toRowW.records s) s.abs, ob s) = _
    rw [e3, e4, e2]
theorem runA (w : World) (os : OsState) : (HandSHeadRun.endF (HandSHeadRun.stepQ (HandSHeadRun.denQ HandSHeadRun.tabQ) R.prog w) 12000 R.prog w os).map (fun s => (HandSHeadRun.looksF R.prog (boot_heap w.params) s.abs, HandSHeadRun.seenQ qv loose (importedModules R.prog.main.body) (fun s => xlAt qv [] s && recOk R.toRowW.records s) s.abs)) = some (true, openGood qv loose) := by
  kernel_rfl
theorem runB (w : World) (os : OsState) : (HandSHeadRun.endF (HandSHeadRun.stepQ (HandSHeadRun.denQ HandSHeadRun.tabQ) R.prog w) 12000 R.prog w os).map obM = some (hookM.val w) := by
  kernel_rfl
theorem run (w : World) : HandSHeadRun.RunEq R qv hookM obM 12000 loose w := runEq_of (runA w) (runB w)
end FK
/-! FKD -/
set_option maxHeartbeats 400000
namespace FK
open PySem PySem.Spec PyProof.Rows L2
open TL (tl)
/-! ### numbers as texts -/
theorem tl_nat (n : Nat) : tl (Str.ofString (toString (Int.ofNat n))) = TL.numL n := TL.tl_num n
theorem tl_neg (n : Nat) : tl (Str.ofString (toString (Int.negSucc n))) = 45 :: TL.numL (n + 1) := by
  have e : toString (Int.negSucc n) = "-" ++ toString (Int.ofNat (n + 1)) := rfl
  have h := tl_nat (n + 1)
  rw [e, TL.tl_ofString, String.toList_append, List.map_append]
  rw [TL.tl_ofString] at h
  rw [h]
  rfl
theorem len_tl (x : Str) : x.length = (tl x).length := TL.len_tl x
theorem len_int {i : Int} (h : -(10 ^ 18) < i ∧ i < 10 ^ 18) : (Str.ofString (toString i)).length ≤ 19 := by
  rw [len_tl]
  cases i with
  | ofNat n =>
    rw [tl_nat]
    have hn : n < 10 ^ 18 := by have h2 : ((n : Nat) : Int) < 10 ^ 18 := h.2; omega
    have := TL.numL_len (k := 18) (by decide) hn
    omega
  | negSucc n =>
    rw [tl_neg, List.length_cons]
    have hn : n + 1 < 10 ^ 18 := by have := h.1; omega
    have := TL.numL_len (k := 18) (by decide) hn
    omega
theorem tl_app (x y : Str) : tl (x ++ y) = tl x ++ tl y := TL.tl_append x y
theorem len_app (x y : Str) : (x ++ y).length = x.length + y.length := by rw [len_tl, len_tl, len_tl, tl_app, List.length_append]
theorem tl_join (y : Str) (parts : List Str) : tl (Txt.join y parts) = TL.joinL (tl y) (parts.map tl) := by rw [TL.join_eq, TL.tl_join]
theorem joinL_len (S : List Nat) : ∀ ps : List (List Nat), (TL.joinL S ps).length ≤ (ps.map List.length).sum + ps.length * S.length
  | [] => Nat.zero_le _
  | [p] => by show p.length ≤ _; simp
  | p :: q :: r => by
    have ih := joinL_len S (q :: r)
    show (p ++ (S ++ TL.joinL S (q :: r))).length ≤ _
    rw [List.length_append, List.length_append, List.map_cons, List.sum_cons, List.length_cons, Nat.succ_mul]
    omega
theorem len_join (y : Str) (ys : List Str) : (Txt.join y ys).length ≤ (ys.map (·.length)).sum + ys.length * y.length := by
  have h := joinL_len (tl y) (ys.map tl)
  rw [← tl_join, ← len_tl, List.length_map, List.map_map, ← len_tl] at h
  have e : ys.map (List.length ∘ tl) = ys.map (·.length) := List.map_congr_left fun x _ => (len_tl x).symm
  rw [e] at h
  exact h
theorem sum_le {α : Type} {f g : α → Nat} : ∀ {l : List α}, (∀ x ∈ l, f x ≤ g x) → (l.map f).sum ≤ (l.map g).sum
  | [], _ => Nat.le_refl _
  | x :: r, h => by
    rw [List.map_cons, List.map_cons, List.sum_cons, List.sum_cons]
    have := h x List.mem_cons_self
    have := sum_le fun y hy => h y (List.mem_cons_of_mem x hy)
    omega
theorem partsL_sum : ∀ l : List D, partsL l = (l.map partsD).sum
  | [] => by rw [partsL]; rfl
  | d :: r => by rw [partsL, partsL_sum r, List.map_cons, List.sum_cons]
theorem partsK_sum : ∀ l : List (Str × D), partsK l = (l.map fun p => partsD p.2).sum
  | [] => by rw [partsK]; rfl
  | d :: r => by rw [partsK, partsK_sum r, List.map_cons, List.sum_cons]
theorem sum_add {α : Type} (f : α → Nat) (c : Nat) : ∀ l : List α, (l.map fun x => f x + c).sum = (l.map f).sum + l.length * c
  | [] => by simp
  | x :: r => by rw [List.map_cons, List.map_cons, List.sum_cons, List.sum_cons, sum_add f c r, List.length_cons, Nat.succ_mul]; omega
theorem sum_mul {α : Type} (f : α → Nat) (c : Nat) : ∀ l : List α, (l.map fun x => c * f x).sum = c * (l.map f).sum
  | [] => by simp
  | x :: r => by rw [List.map_cons, List.map_cons, List.sum_cons, List.sum_cons, sum_mul f c r, Nat.mul_add]
/-- the shown parts of a record -/
def showPairs (l : List (Str × D)) : List Str := (sortK (showK l)).map fun p => p.1 ++ (":" : Str) ++ p.2
theorem len1 : (("," : Str)).length = 1 ∧ (("[" : Str)).length = 1 ∧ (("]" : Str)).length = 1 ∧ (("{" : Str)).length = 1 ∧ (("}" : Str)).length = 1 ∧ ((":" : Str)).length = 1 ∧ (("'" : Str)).length = 1 := by decide +kernel
theorem perm_sum {l m : List Nat} (h : l.Perm m) : l.sum = m.sum := by
  induction h with
  | nil => rfl
  | cons x _ ih => rw [List.sum_cons, List.sum_cons, ih]
  | swap x y l => simp only [List.sum_cons]; omega
  | trans _ _ a b => rw [a, b]
theorem len_pairs {l : List (Str × D)} (w : ∀ p ∈ l, IsWord p.1) (h : ∀ p ∈ l, (showD p.2).length + 10 ≤ 40 * partsD p.2) : ((showPairs l).map (·.length)).sum + l.length ≤ 40 * partsK l := by
  unfold showPairs
  have e : (((sortK (showK l)).map fun p => p.1 ++ (":" : Str) ++ p.2).map (·.length)).sum = ((showK l).map fun p => p.1.length + 1 + p.2.length).sum := by
    rw [List.map_map]
    have e2 : (sortK (showK l)).map ((fun x : Str => x.length) ∘ fun p => p.1 ++ (":" : Str) ++ p.2) = (sortK (showK l)).map fun p => p.1.length + 1 + p.2.length := List.map_congr_left fun p _ => by
      show (p.1 ++ (":" : Str) ++ p.2).length = _
      rw [len_app, len_app, len1.2.2.2.2.2.1]
    rw [e2]
    exact perm_sum ((sortK_perm _).map _)
  rw [e, showK_eq, List.map_map, partsK_sum, ← sum_mul]
  have q : (l.map ((fun p : Str × Str => p.1.length + 1 + p.2.length) ∘ fun p => (p.1, showD p.2))).sum + l.length = (l.map fun p => (p.1.length + 1 + (showD p.2).length) + 1).sum := by
    rw [sum_add, Nat.mul_one]
    rfl
  rw [q]
  exact sum_le fun p hp => by have := h p hp; have := (w p hp).2.1; omega
theorem len_show {d : D} (w : WfD d) : (showD d).length + 10 ≤ 40 * partsD d := by
  obtain ⟨e1, e2, e3, e4, e5, e6, e7⟩ := len1
  induction d using D.ind with
  | int i =>
    cases w with
    | int h =>
      have := len_int h
      rw [showD_int, partsD]
      omega
  | str x =>
    cases w with
    | str h =>
      have := h.2.1
      rw [showD_str, partsD, len_app, e7]
      omega
  | tup l ih =>
    cases w with
    | tup h =>
      rw [showD_tup, partsD, len_app, len_app, e2, e3, showL_eq]
      have j := len_join "," (l.map showD)
      rw [List.length_map, e1, Nat.mul_one, List.map_map] at j
      have s : (l.map ((fun x : Str => x.length) ∘ showD)).sum + l.length * 10 ≤ 40 * partsL l := by
        rw [← sum_add, partsL_sum, ← sum_mul]
        exact sum_le fun d hd => ih d hd (h d hd)
      omega
  | dct l ih =>
    cases w with
    | dct n w h =>
      rw [showD_dct, partsD, len_app, len_app, e4, e5]
      have j := len_join "," (showPairs l)
      have z : (showPairs l).length = l.length := by unfold showPairs; rw [List.length_map, sortK_length, showK_eq, List.length_map]
      rw [z, e1, Nat.mul_one] at j
      have s := len_pairs w fun p hp => ih p hp (h p hp)
      have j2 : (Txt.join "," ((sortK (showK l)).map fun p => p.1 ++ (":" : Str) ++ p.2)).length ≤ ((showPairs l).map (·.length)).sum + l.length := j
      omega
end FK
/-! FKE -/
set_option maxHeartbeats 400000
namespace FK
open PySem PySem.Spec PyProof.Rows L2
open TL (tl)
/-! ### programs -/
inductive Atom where
  | is (d : D) | of (n : Str)
inductive Step where
  | let_ (n op : Str) (as : List Atom) | call (n f : Str) (as : List Atom)
inductive Leaf where
  | give (a : Atom) | go (f : Str) (as : List Atom) | fail (w : Str)
inductive Block where
  | leaf (ss : List Step) (e : Leaf) | iff (ss : List Step) (a : Atom) (b c : Block)
structure Fn where
  name : Str
  params : List Str
  body : Block
abbrev Prog := List Fn
def Atom.d : Atom → D
  | .is d => .tup [.str "is", d]
  | .of n => .tup [.str "of", .str n]
def atomsD (as : List Atom) : D := .tup (as.map Atom.d)
def Step.d : Step → D
  | .let_ n op as => .tup [.str "let", .str n, .str op, atomsD as]
  | .call n f as => .tup [.str "call", .str n, .str f, atomsD as]
def Leaf.d : Leaf → D
  | .give a => .tup [.str "give", a.d]
  | .go f as => .tup [.str "go", .str f, atomsD as]
  | .fail w => .tup [.str "fail", .str w]
def stepsD (ss : List Step) : D := .tup (ss.map Step.d)
def Block.d : Block → D
  | .leaf ss e => .tup [stepsD ss, e.d]
  | .iff ss a b c => .tup [stepsD ss, .tup [.str "if", a.d, b.d, c.d]]
def Block.ss : Block → List Step
  | .leaf ss _ => ss
  | .iff ss _ _ _ => ss
def Block.eD : Block → D
  | .leaf _ e => e.d
  | .iff _ a b c => .tup [.str "if", a.d, b.d, c.d]
theorem Block.d_eq : ∀ b : Block, b.d = .tup [stepsD b.ss, b.eD]
  | .leaf _ _ => rfl
  | .iff _ _ _ _ => rfl
def Fn.d (f : Fn) : D := .tup [.str f.name, .tup (f.params.map D.str), f.body.d]
def progD (p : Prog) : D := .tup (p.map Fn.d)
/-! ### as text -/
def atomT : Atom → Str
  | .is d => showD d
  | .of n => n
def rowT (ws : List Str) (as : List Atom) : Str := Txt.join " " (ws ++ as.map atomT)
def stepT : Step → Str
  | .let_ n op as => rowT [n, "=", op] as
  | .call n f as => rowT [n, "=", "call", f] as
def leafT : Leaf → Str
  | .give a => rowT ["give"] [a]
  | .go f as => rowT ["go", f] as
  | .fail w => ("fail " : Str) ++ w
def rowsB : Block → List Str
  | .leaf ss e => ss.map stepT ++ [leafT e]
  | .iff ss a b c => ss.map stepT ++ [rowT ["if"] [a]] ++ rowsB b ++ [("else" : Str)] ++ rowsB c ++ [("end" : Str)]
def headT (f : Fn) : Str := Txt.join " " ([("fun" : Str), f.name] ++ f.params)
def rowsF (f : Fn) : List Str := headT f :: rowsB f.body
def rowsP (p : Prog) : List Str := p.flatMap rowsF
def textP (p : Prog) : Str := Txt.join "\n" (rowsP p)
/-! ### what the law builds -/
def opTab : List (Str × Nat) := [("add", 2), ("sub", 2), ("mul", 2), ("div", 2), ("rem", 2), ("less", 2), ("same", 2), ("down", 1), ("kind", 1), ("front", 2), ("head", 1), ("rest", 1), ("many", 1), ("item", 2), ("put", 3), ("field", 2), ("set", 3)]
def WfAtom : Atom → Prop
  | .is d => WfD d ∧ partsD d ≤ 60
  | .of n => IsName n
def WfStep : Step → Prop
  | .let_ n op as => IsName n ∧ (op, as.length) ∈ opTab ∧ ∀ a ∈ as, WfAtom a
  | .call n f as => IsName n ∧ IsName f ∧ as.length ≤ 6 ∧ ∀ a ∈ as, WfAtom a
def WfLeaf : Leaf → Prop
  | .give a => WfAtom a
  | .go f as => IsName f ∧ as.length ≤ 6 ∧ ∀ a ∈ as, WfAtom a
  | .fail w => IsWord w
def WfB : Block → Prop
  | .leaf ss e => (∀ s ∈ ss, WfStep s) ∧ WfLeaf e
  | .iff ss a b c => (∀ s ∈ ss, WfStep s) ∧ WfAtom a ∧ WfB b ∧ WfB c
def ifsB : Block → Nat
  | .leaf _ _ => 0
  | .iff _ _ b c => 1 + max (ifsB b) (ifsB c)
def linesB : Block → Nat
  | .leaf ss _ => ss.length + 1
  | .iff ss _ b c => ss.length + 1 + linesB b + linesB c
def WfF (f : Fn) : Prop := IsName f.name ∧ f.params.length ≤ 6 ∧ (∀ p ∈ f.params, IsName p) ∧ WfB f.body ∧ ifsB f.body ≤ 8 ∧ linesB f.body ≤ 60
def WfP (p : Prog) : Prop := (∀ f ∈ p, WfF f) ∧ p.length ≤ 200 ∧ (rowsP p).length ≤ 1000 ∧ p ≠ []
theorem rowsB_len : ∀ b : Block, (rowsB b).length ≤ 3 * linesB b
  | .leaf ss e => by rw [rowsB, linesB, List.length_append, List.length_map]; simp; omega
  | .iff ss a b c => by
    have h1 := rowsB_len b
    have h2 := rowsB_len c
    simp only [rowsB, linesB, List.length_append, List.length_map, List.length_cons, List.length_nil]
    omega
/-! ### lengths -/
theorem op_len : ∀ p ∈ opTab, p.1.length ≤ 8 ∧ p.2 ≤ 3 := by decide +kernel
theorem words_len : (("=" : Str)).length = 1 ∧ (("call" : Str)).length = 4 ∧ (("give" : Str)).length = 4 ∧ (("go" : Str)).length = 2 ∧ (("if" : Str)).length = 2 ∧ (("fail " : Str)).length = 5 ∧ (("fun" : Str)).length = 3 ∧ (("else" : Str)).length = 4 ∧ (("end" : Str)).length = 3 ∧ ((" " : Str)).length = 1 ∧ (("\n" : Str)).length = 1 := by decide +kernel
theorem atomT_len {a : Atom} (h : WfAtom a) : (atomT a).length ≤ 2400 := by
  cases a with
  | is d =>
    have := len_show h.1
    have := h.2
    show (showD d).length ≤ 2400
    omega
  | of n =>
    have := h.2.1
    show n.length ≤ 2400
    omega
theorem sum_bound {α : Type} {f : α → Nat} {c : Nat} : ∀ {l : List α}, (∀ x ∈ l, f x ≤ c) → (l.map f).sum ≤ l.length * c
  | [], _ => Nat.zero_le _
  | x :: r, h => by
    rw [List.map_cons, List.sum_cons, List.length_cons, Nat.succ_mul]
    have := h x List.mem_cons_self
    have := sum_bound fun y hy => h y (List.mem_cons_of_mem x hy)
    omega
/-- what a join of words and atoms asks -/
theorem row_sum {ws : List Str} {as : List Atom} (h1 : ws.length ≤ 8) (h2 : ∀ w ∈ ws, w.length ≤ 8) (h3 : as.length ≤ 6) (h4 : ∀ a ∈ as, WfAtom a) : ((ws ++ as.map atomT).map (·.length)).sum + (ws ++ as.map atomT).length * (" " : Str).length ≤ 15000 := by
  rw [List.map_append, List.sum_append, List.length_append, List.length_map, words_len.2.2.2.2.2.2.2.2.2.1, List.map_map]
  have a1 : (ws.map (·.length)).sum ≤ ws.length * 8 := sum_bound h2
  have a2 : (as.map ((fun x : Str => x.length) ∘ atomT)).sum ≤ as.length * 2400 := sum_bound fun a ha => atomT_len (h4 a ha)
  omega
theorem rowT_len {ws : List Str} {as : List Atom} (h1 : ws.length ≤ 8) (h2 : ∀ w ∈ ws, w.length ≤ 8) (h3 : as.length ≤ 6) (h4 : ∀ a ∈ as, WfAtom a) : (rowT ws as).length ≤ 15000 :=
  Nat.le_trans (len_join _ _) (row_sum h1 h2 h3 h4)
theorem stepT_len {s : Step} (h : WfStep s) : (stepT s).length ≤ 15000 := by
  obtain ⟨w1, w2, w3, w4, w5, w6, w7, w8, w9, w10, w11⟩ := words_len
  cases s with
  | let_ n op as =>
    obtain ⟨a1, a2, a3⟩ := h
    have o := op_len _ a2
    refine rowT_len (by simp) (fun w hw => ?_) (by have := o.2; simp at this; omega) a3
    simp only [List.mem_cons, List.not_mem_nil, or_false] at hw
    rcases hw with rfl | rfl | rfl
    · exact a1.2.1
    · omega
    · exact o.1
  | call n f as =>
    obtain ⟨a1, a2, a3, a4⟩ := h
    refine rowT_len (by simp) (fun w hw => ?_) a3 a4
    simp only [List.mem_cons, List.not_mem_nil, or_false] at hw
    rcases hw with rfl | rfl | rfl | rfl
    · exact a1.2.1
    · omega
    · omega
    · exact a2.2.1
theorem leafT_len {e : Leaf} (h : WfLeaf e) : (leafT e).length ≤ 15000 := by
  obtain ⟨w1, w2, w3, w4, w5, w6, w7, w8, w9, w10, w11⟩ := words_len
  cases e with
  | give a =>
    refine rowT_len (by simp) (fun w hw => ?_) (by simp) (fun x hx => ?_)
    · rw [List.mem_singleton.mp hw]; omega
    · rw [List.mem_singleton.mp hx]; exact h
  | go f as =>
    obtain ⟨a1, a2, a3⟩ := h
    refine rowT_len (by simp) (fun w hw => ?_) a2 a3
    simp only [List.mem_cons, List.not_mem_nil, or_false] at hw
    rcases hw with rfl | rfl
    · omega
    · exact a1.2.1
  | fail w =>
    show (("fail " : Str) ++ w).length ≤ _
    have := h.2.1
    rw [len_app]; omega
theorem rowsB_bound : ∀ {b : Block}, WfB b → ∀ r ∈ rowsB b, r.length ≤ 15000
  | .leaf ss e, h, r, hr => by
    rw [rowsB] at hr
    rcases List.mem_append.mp hr with hr | hr
    · obtain ⟨s, hs, rfl⟩ := List.mem_map.mp hr
      exact stepT_len (h.1 s hs)
    · rw [List.mem_singleton.mp hr]; exact leafT_len h.2
  | .iff ss a b c, h, r, hr => by
    obtain ⟨w1, w2, w3, w4, w5, w6, w7, w8, w9, w10, w11⟩ := words_len
    obtain ⟨h1, h2, h3, h4⟩ := h
    simp only [rowsB, List.mem_append, List.mem_singleton] at hr
    rcases hr with ((((hr | hr) | hr) | hr) | hr) | hr
    · obtain ⟨s, hs, rfl⟩ := List.mem_map.mp hr
      exact stepT_len (h1 s hs)
    · rw [hr]
      refine rowT_len (by simp) (fun w hw => ?_) (by simp) (fun x hx => ?_)
      · rw [List.mem_singleton.mp hw]; omega
      · rw [List.mem_singleton.mp hx]; exact h2
    · exact rowsB_bound h3 r hr
    · rw [hr]; omega
    · exact rowsB_bound h4 r hr
    · rw [hr]; omega
theorem head_sum {f : Fn} (h : WfF f) : (([("fun" : Str), f.name] ++ f.params).map (·.length)).sum + ([("fun" : Str), f.name] ++ f.params).length * (" " : Str).length ≤ 1000 := by
  obtain ⟨h1, h2, h3, _⟩ := h
  have a : ∀ w ∈ ([("fun" : Str), f.name] ++ f.params), w.length ≤ 8 := fun w hw => by
    rcases List.mem_append.mp hw with hw | hw
    · simp only [List.mem_cons, List.not_mem_nil, or_false] at hw
      rcases hw with rfl | rfl
      · rw [words_len.2.2.2.2.2.2.1]; omega
      · exact h1.2.1
    · exact (h3 w hw).2.1
  have b : (([("fun" : Str), f.name] ++ f.params).map (·.length)).sum ≤ _ := sum_bound a
  have c : ([("fun" : Str), f.name] ++ f.params).length = 2 + f.params.length := by rw [List.length_append]; rfl
  rw [words_len.2.2.2.2.2.2.2.2.2.1]
  omega
theorem headT_len {f : Fn} (h : WfF f) : (headT f).length ≤ 1000 := Nat.le_trans (len_join _ _) (head_sum h)
theorem rowsP_bound {p : Prog} (h : WfP p) : ∀ r ∈ rowsP p, r.length ≤ 15000 := fun r hr => by
  obtain ⟨f, hf, hr⟩ := List.mem_flatMap.mp hr
  have w := h.1 f hf
  rcases List.mem_cons.mp hr with e | hr
  · rw [e]; have := headT_len w; omega
  · exact rowsB_bound w.2.2.2.1 r hr
theorem text_sum {p : Prog} (h : WfP p) : ((rowsP p).map (·.length)).sum + (rowsP p).length * ("\n" : Str).length ≤ 16000000 := by
  have a : ((rowsP p).map (·.length)).sum ≤ _ := sum_bound (rowsP_bound h)
  have b := h.2.2.1
  rw [words_len.2.2.2.2.2.2.2.2.2.2]
  have c : (rowsP p).length * 15000 ≤ 1000 * 15000 := Nat.mul_le_mul_right _ b
  omega
end FK
/-! FKL -/
set_option maxHeartbeats 4000000
namespace FK
open PySem PySem.Spec PyProof.Rows L2
open TL (tl)
theorem seq0 (n : Nat) : seqIndex? 0 (n + 1) = some 0 := by
  unfold seqIndex?
  have h : (decide ((0 : Int) ≤ 0) && decide ((0 : Int) < ((n + 1 : Nat) : Int))) = true := by simp
  simp only [Int.lt_irrefl, if_false, h, if_true]
  rfl
theorem atI_get? {α : Type} {l : List α} {i : Int} {x : α} (h0 : 0 ≤ i) (h : l[i.toNat]? = some x) : atI l i = some x := by
  have e : i = ((i.toNat : Nat) : Int) := by omega
  rw [e]
  exact atI_nat h
theorem get?_getD {α : Type} {l : List α} {n : Nat} (d : α) (h : n < l.length) : l[n]? = some (l.getD n d) := by
  rw [List.getD_eq_getElem?_getD, List.getElem?_eq_getElem h]
  rfl
theorem atI_ints {l : List Int} {i : Int} (h0 : 0 ≤ i) (h1 : i < l.length) : atI (l.map V.int) i = some (.int (l.getD i.toNat 0)) := by
  refine atI_get? h0 ?_
  rw [List.getElem?_map, get?_getD 0 (by omega)]
  rfl
theorem atI_strs {l : List Str} {i : Int} (h0 : 0 ≤ i) (h1 : i < l.length) : atI (l.map V.str) i = some (.str (l.getD i.toNat Str.empty)) := by
  refine atI_get? h0 ?_
  rw [List.getElem?_map, get?_getD Str.empty (by omega)]
  rfl
theorem atI_nats {l : List Nat} {i : Int} (h0 : 0 ≤ i) (h1 : i < l.length) : atI l i = some (l.getD i.toNat 0) := atI_get? h0 (get?_getD 0 (by omega))
theorem RepL.nil {H : Hp} : RepL H [] [] := repL_nil.mpr rfl
theorem RepL.cons {H : Hp} {d : D} {ds : List D} {x : V} {xs : List V} (h : Rep H d x) (g : RepL H ds xs) : RepL H (d :: ds) (x :: xs) := repL_cons.mpr ⟨x, xs, rfl, h, g⟩
theorem Rep.str {H : Hp} {x : Str} : Rep H (.str x) (.str x) := rep_str.mpr rfl
theorem Rep.int {H : Hp} {i : Int} : Rep H (.int i) (.int i) := rep_int.mpr rfl
/-- parts of a row -/
theorem RepL.c1 {H : Hp} {d : D} {xs : List V} (h : RepL H [d] xs) : ∃ x, xs = [x] ∧ Rep H d x := by
  obtain ⟨x, r, rfl, h1, h2⟩ := repL_cons.mp h
  rw [repL_nil.mp h2]
  exact ⟨x, rfl, h1⟩
theorem RepL.c2 {H : Hp} {d e : D} {xs : List V} (h : RepL H [d, e] xs) : ∃ x y, xs = [x, y] ∧ Rep H d x ∧ Rep H e y := by
  obtain ⟨x, r, rfl, h1, h2⟩ := repL_cons.mp h
  obtain ⟨y, rfl, h3⟩ := h2.c1
  exact ⟨x, y, rfl, h1, h3⟩
theorem RepL.c3 {H : Hp} {d e f : D} {xs : List V} (h : RepL H [d, e, f] xs) : ∃ x y z, xs = [x, y, z] ∧ Rep H d x ∧ Rep H e y ∧ Rep H f z := by
  obtain ⟨x, r, rfl, h1, h2⟩ := repL_cons.mp h
  obtain ⟨y, z, rfl, h3, h4⟩ := h2.c2
  exact ⟨x, y, z, rfl, h1, h3, h4⟩
theorem RepL.c4 {H : Hp} {d e f g : D} {xs : List V} (h : RepL H [d, e, f, g] xs) : ∃ x y z u, xs = [x, y, z, u] ∧ Rep H d x ∧ Rep H e y ∧ Rep H f z ∧ Rep H g u := by
  obtain ⟨x, r, rfl, h1, h2⟩ := repL_cons.mp h
  obtain ⟨y, z, u, rfl, h3, h4, h5⟩ := h2.c3
  exact ⟨x, y, z, u, rfl, h1, h3, h4, h5⟩
theorem Rep.t {H : Hp} {l : List D} {v : V} (h : Rep H (.tup l) v) : ∃ a xs, v = .ref a ∧ H a = some (.tup xs) ∧ RepL H l xs := rep_tup.mp h
theorem sqT_of {K : PySem.W.Frag} {H : Hp} {a : Addr} {xs : List V} (h : H a = some (.tup xs)) : SqT K H a xs := .inl (.inl h)
theorem sl1 : 1 ≤ sizeLine := by decide
theorem sl0 : 0 ≤ sizeLine := by decide
theorem sl2 : 2 ≤ sizeLine := by decide
theorem sl3 : 3 ≤ sizeLine := by decide
theorem sl4 : 4 ≤ sizeLine := by decide
theorem sl_le {n : Nat} (h : n ≤ 1000) : n ≤ sizeLine := Nat.le_trans h (by decide)
theorem sl_lt {n : Nat} (h : n ≤ 10000000) : n < sizeLine := Nat.lt_of_le_of_lt h (by decide)
theorem Fr.put_new {S : List Addr} {H H' : Hp} {p : Addr} {o : HO} (a : Fr S H H') (n : H p = none) : Fr S H (upd H' p o) := fun b u e m => by
  rw [upd_ne (ne_of_none e n)]
  exact a b u e m
theorem ifI {x y : Int} {A B : Prop} (h1 : x = y → A) (h2 : ¬ x = y → B) : if decide (V.int x = V.int y) = true then A else B :=
  ite2 (fun q => h1 (V.int.inj (of_decide_eq_true q))) fun q => h2 fun z => q (decide_eq_true (by rw [z]))
theorem ifS {x y : Str} {A B : Prop} (h1 : x = y → A) (h2 : ¬ x = y → B) : if decide (V.str x = V.str y) = true then A else B :=
  ite2 (fun q => h1 (V.str.inj (of_decide_eq_true q))) fun q => h2 fun z => q (decide_eq_true (by rw [z]))
theorem ifB {p : Prop} [Decidable p] {A B : Prop} (h1 : p → A) (h2 : ¬ p → B) : if decide p = true then A else B :=
  ite2 (fun q => h1 (of_decide_eq_true q)) fun q => h2 fun z => q (decide_eq_true z)
theorem ifNI {x y : Int} {A B : Prop} (h1 : ¬ x = y → A) (h2 : x = y → B) : if (!decide (V.int x = V.int y)) = true then A else B := by
  by_cases e : x = y
  · rw [decide_eq_true (show V.int x = V.int y by rw [e])]
    exact iteF (h2 e)
  · rw [decide_eq_false (fun z => e (V.int.inj z))]
    exact iteT (h1 e)
theorem ifNS {x y : Str} {A B : Prop} (h1 : ¬ x = y → A) (h2 : x = y → B) : if (!decide (V.str x = V.str y)) = true then A else B := by
  by_cases e : x = y
  · rw [decide_eq_true (show V.str x = V.str y by rw [e])]
    exact iteF (h2 e)
  · rw [decide_eq_false (fun z => e (V.str.inj z))]
    exact iteT (h1 e)
section
variable {P : Program} {w : World} {K : PySem.W.Frag} {mg : Str → Option Value} {base : Heap}
theorem fn_none {f : Addr} {fd : FuncData} {ps : List Str} {sp : Sp} (no : ∀ vs H Q E, ¬ sp vs H Q E) : FnOk P w K mg base C8.CX0 0 f fd ps sp :=
  ⟨fun vs H Q E h => absurd h (no vs H Q E), fun A outer s H args us vs Q E _ _ _ _ h => absurd h (no vs H Q E)⟩
theorem cal_none {x qual : Str} {st : Stmt} {f : Addr} {ps : List Str} {sp : Sp} (F : ∃ fd, FunD K x qual (defArgs st) (defBody st) (defScope st) [] [] f fd) (hm : mg x = some (.ref f))
    (b : ∀ (kV doc pm : Value) (an : Option Addr) (cdv ct : Value) (us : List Value), us.length = ps.length → bindArgs (PySem.W.fnOf x qual (defArgs st) (defBody st) (defScope st) .none kV doc pm an cdv ct) ⟨us, []⟩ = pure (ps.zip us))
    (no : ∀ vs H Q E, ¬ sp vs H Q E) : C8.Cal P w K mg base 0 x sp [] := by
  obtain ⟨fd, F⟩ := F
  exact ⟨f, fd, ps, [], fn_none no, hm, F.kp, F.bindsN b, .nil⟩
end
end FK
/-! FKG1 -/
set_option maxHeartbeats 4000000
namespace FK
open PySem PySem.Spec PyProof.Rows L2
open TL (tl)
/-! ### the deck -/
def gNext (deck : List Int) (m : Int) : Int × List Int := match deck with
  | [] => (0, [])
  | c :: r => (c % m, r)
abbrev LI (H : Hp) (a : Addr) (l : List Int) : Prop := H a = some (.lst (l.map V.int))
theorem LI.new {H : Hp} {a p : Addr} {l : List Int} {o : HO} (h : LI H a l) (n : H p = none) : LI (upd H p o) a l := by
  show upd H p o a = _
  rw [upd_ne (ne_of_none h n)]
  exact h
def spNext : Sp := fun vs H Q _ => ∃ (a : Addr) (l : List Int) (m : Int), vs = [.ref a, .int m] ∧ LI H a l ∧ 0 < m ∧
  ∀ H', Fr [a] H H' → LI H' a (gNext l m).2 → Q (.int (gNext l m).1) H'
section
variable {P : Program} {w : World} {K : PySem.W.Frag} {mg : Str → Option Value} {base : Heap}
theorem sc_g_next : FnScope ["_law_deck_here", "_law_many"] ["_law_deck_here", "_law_many"] (defScope s_g_next) := C8.fnScope_by (by decide +kernel)
theorem ok_next (T : TX K mg) : C8.Cal P w K mg base 1 "_law_next" spNext [] := by
  refine cal_of T.f_g_next T.g__law_next sc_g_next (fun _ _ _ _ _ _ us hl => match us, hl with | [_, _], _ => rfl) (fun vs H Q E h => ?_) (fun cdv A outer s H vs Q E hr h => ?_)
  · obtain ⟨a, l, m, rfl, _⟩ := h
    rfl
  obtain ⟨a, l, m, rfl, ha, hm, k⟩ := h
  refine ⟨_, (pss_cons (ps_if (pt_cmpR op_eq (pe_callB call_len_seq (by rfl) T.z_len (by decide +kernel) (pa_cons (pv 0) pa_nil)) pe_int (nomark _)) (pss_one (ps_ret pe_int)) pss_nil)
      (pss_one (ps_ret (pe_op op_mod (pe_bm PySem.F.plainAttrs_list PySem.F.slot_list_pop PySem.F.type_list_pop mt_popAt (pv 0) (pa_cons pe_int pa_nil)) (pv 1))))), ?_⟩
  refine ⟨_, rfl, a, _, rfl, .inl (SqL.of ha), rfl, _, rfl, ?_⟩
  cases l with
  | nil =>
    refine iteT ?_
    exact k H (Fr.refl _ _) ha
  | cons c r =>
    refine ite2 (fun q => ?_) (fun _ => ?_)
    · exact absurd (of_decide_eq_true q) (by simp; omega)
    refine ⟨_, rfl, .inl ⟨rfl, _, SqL.of ha⟩, a, _, 0, 0, .int c, rfl, rfl, ha, by decide, by decide, ?_, rfl, _, rfl, c, m, rfl, rfl, hm, ?_⟩
    · rw [List.length_map, List.length_cons]; exact seq0 _
    · exact k _ (Fr.put (by simp)) upd_same
/-! ### a number -/
theorem gNext_lo (l : List Int) {m : Int} (h : 0 < m) : 0 ≤ (gNext l m).1 := by
  cases l with
  | nil => exact Int.le_refl 0
  | cons c r => exact Int.emod_nonneg _ (by omega)
theorem gNext_hi (l : List Int) {m : Int} (h : 0 < m) : (gNext l m).1 < m := by
  cases l with
  | nil => exact h
  | cons c r => exact Int.emod_lt_of_pos _ h
def numTab : List Int := [10 ^ 18 - 1, 1 - 10 ^ 18, 10 ^ 17, 1 - 10 ^ 17, 99, -10]
def gNumber (l : List Int) : Int × List Int :=
  if (gNext l 6).1 < 2 then gNext (gNext l 6).2 10
  else if (gNext l 6).1 = 2 then (0 - (gNext (gNext l 6).2 1000).1, (gNext (gNext l 6).2 1000).2)
  else if (gNext l 6).1 = 3 then (numTab.getD (gNext (gNext l 6).2 6).1.toNat 0, (gNext (gNext l 6).2 6).2)
  else
    ([(gNext (gNext l 6).2 (10 ^ 9)).1 * 10 ^ 9 + (gNext (gNext (gNext l 6).2 (10 ^ 9)).2 (10 ^ 9)).1,
      0 - ((gNext (gNext l 6).2 (10 ^ 9)).1 * 10 ^ 9 + (gNext (gNext (gNext l 6).2 (10 ^ 9)).2 (10 ^ 9)).1)].getD ((gNext l 6).1 % 2).toNat 0,
     (gNext (gNext (gNext l 6).2 (10 ^ 9)).2 (10 ^ 9)).2)
def spNumber : Sp := fun vs H Q _ => ∃ (a : Addr) (l : List Int), vs = [.ref a] ∧ LI H a l ∧
  ∀ H', Fr [a] H H' → LI H' a (gNumber l).2 → Q (.int (gNumber l).1) H'
theorem pow_ok {i j : Int} (h : (decide (0 ≤ j) && decide (j ≤ 1000000) && decide (i.natAbs < 2 ^ 64)) = true) : CPow i j := by
  simp only [Bool.and_eq_true, decide_eq_true_eq] at h
  exact ⟨h.1.1, h.1.2, h.2⟩
theorem sc_g_number : FnScope ["_law_deck_here", "_law_way", "_law_number_here", "_law_some"] ["_law_deck_here"] (defScope s_g_number) := C8.fnScope_by (by decide +kernel)
theorem ok_number (T : TX K mg) : C8.Cal P w K mg base 2 "_law_number" spNumber [] := by
  have c__law_next : C8.Cal P w K mg base 1 "_law_next" spNext [] := ok_next T
  refine cal_of T.f_g_number T.g__law_number sc_g_number (fun _ _ _ _ _ _ us hl => match us, hl with | [_], _ => rfl) (fun vs H Q E h => ?_) (fun cdv A outer s H vs Q E hr h => ?_)
  · obtain ⟨a, l, rfl, _⟩ := h
    rfl
  obtain ⟨a, l, rfl, ha, k⟩ := h
  refine ⟨_, (pss_cons (ps_set (i := 1) sc_g_number.nd rfl (by first | exact Or.inl rfl | exact Or.inr rfl) (C8.pe_c c__law_next hr (by omega) (by rfl) (pa_cons (pv 0) (pa_cons pe_int pa_nil))))
      (pss_cons (ps_if (pt_cmpR op_lt (pv 1) pe_int (nomark _)) (pss_one (ps_ret (C8.pe_c c__law_next hr (by omega) (by rfl) (pa_cons (pv 0) (pa_cons pe_int pa_nil))))) pss_nil)
      (pss_cons (ps_if (pt_cmpR op_eq (pv 1) pe_int (nomark _)) (pss_one (ps_ret (pe_op op_sub pe_int (C8.pe_c c__law_next hr (by omega) (by rfl) (pa_cons (pv 0) (pa_cons pe_int pa_nil)))))) pss_nil)
      (pss_cons (ps_if (pt_cmpR op_eq (pv 1) pe_int (nomark _)) (pss_cons (ps_set (i := 3) sc_g_number.nd rfl (by first | exact Or.inl rfl | exact Or.inr rfl) (pe_lst (pa_cons (pe_op op_sub (pe_op op_pow pe_int pe_int) pe_int) (pa_cons (pe_op op_sub pe_int (pe_op op_pow pe_int pe_int)) (pa_cons (pe_op op_pow pe_int pe_int) (pa_cons (pe_op op_sub pe_int (pe_op op_pow pe_int pe_int)) (pa_cons pe_int (pa_cons (pe_un un_neg pe_int) pa_nil))))))))
      (pss_one (ps_ret (pe_ix (r := rIxL K) ix_list (pv 3) (C8.pe_c c__law_next hr (by omega) (by rfl) (pa_cons (pv 0) (pa_cons pe_int pa_nil))) (fun _ _ => rfl))))) pss_nil)
      (pss_cons (ps_set (i := 2) sc_g_number.nd rfl (by first | exact Or.inl rfl | exact Or.inr rfl) (pe_op op_add (pe_op op_mul (C8.pe_c c__law_next hr (by omega) (by rfl) (pa_cons (pv 0) (pa_cons (pe_op op_pow pe_int pe_int) pa_nil))) (pe_op op_pow pe_int pe_int)) (C8.pe_c c__law_next hr (by omega) (by rfl) (pa_cons (pv 0) (pa_cons (pe_op op_pow pe_int pe_int) pa_nil)))))
      (pss_one (ps_ret (pe_ix (r := rIxL K) ix_list (pe_lst (pa_cons (pv 2) (pa_cons (pe_op op_sub pe_int (pv 2)) pa_nil))) (pe_op op_mod (pv 1) pe_int) (fun _ _ => rfl))))))))), ?_⟩
  refine ⟨_, rfl, a, l, 6, rfl, ha, by decide, fun H1 f1 h1 => ?_⟩
  have lo := gNext_lo l (show (0 : Int) < 6 by decide)
  have hi := gNext_hi l (show (0 : Int) < 6 by decide)
  unfold gNumber at k
  generalize hx : (gNext l 6).1 = x at *
  generalize hy : (gNext l 6).2 = l1 at *
  refine ⟨_, rfl, x, 2, rfl, rfl, _, rfl, ite2 (fun q => ?_) (fun q => ?_)⟩
  · have q1 := of_decide_eq_true q
    rw [if_pos q1] at k
    exact ⟨_, rfl, a, l1, 10, rfl, h1, by decide, fun H2 f2 h2 => k H2 (f1.trans f2) h2⟩
  have q1 : ¬ x < 2 := fun z => q (decide_eq_true z)
  rw [if_neg q1] at k
  refine ⟨_, rfl, rfl, _, rfl, ite2 (fun q => ?_) (fun q => ?_)⟩
  · have q2 : x = 2 := V.int.inj (of_decide_eq_true q)
    rw [if_pos q2] at k
    refine ⟨_, rfl, a, l1, 1000, rfl, h1, by decide, fun H2 f2 h2 => ⟨_, _, rfl, rfl, k H2 (f1.trans f2) h2⟩⟩
  have q2 : ¬ x = 2 := fun z => q (decide_eq_true (by rw [z]))
  rw [if_neg q2] at k
  refine ⟨_, rfl, rfl, _, rfl, ite2 (fun q => ?_) (fun q => ?_)⟩
  · have q3 : x = 3 := V.int.inj (of_decide_eq_true q)
    rw [if_pos q3] at k
    refine ⟨_, _, rfl, rfl, pow_ok (by decide), _, _, rfl, rfl, _, _, rfl, rfl, pow_ok (by decide), _, _, rfl, rfl, _, _, rfl, rfl, pow_ok (by decide), _, _, rfl, rfl, pow_ok (by decide), _, _, rfl, rfl, _, rfl, (by show 6 ≤ sizeLine; decide), fun p hp => ?_⟩
    have np : a ≠ p := ne_of_none h1 hp
    refine ⟨_, rfl, _, rfl, a, l1, 6, rfl, h1.new hp, by decide, fun H2 f2 h2 => ?_⟩
    have e2 := f2.at (p := p) upd_same (by simp; exact np.symm)
    have lo2 := gNext_lo l1 (show (0 : Int) < 6 by decide)
    have hi2 := gNext_hi l1 (show (0 : Int) < 6 by decide)
    refine ⟨p, numTab.map V.int, _, _, rfl, rfl, SqL.of e2, atI_ints lo2 hi2, ?_⟩
    exact k H2 (f1.trans ((Fr.new hp).trans f2)) h2
  have q3 : ¬ x = 3 := fun z => q (decide_eq_true (by rw [z]))
  rw [if_neg q3] at k
  refine ⟨_, rfl, _, _, rfl, rfl, pow_ok (by decide), a, l1, 10 ^ 9, rfl, h1, by decide, fun H2 f2 h2 => ?_⟩
  have lo2 := gNext_lo l1 (show (0 : Int) < 10 ^ 9 by decide)
  have hi2 := gNext_hi l1 (show (0 : Int) < 10 ^ 9 by decide)
  refine ⟨_, _, rfl, rfl, pow_ok (by decide), _, _, rfl, rfl, .inl ⟨by omega, by omega⟩, _, rfl, _, _, rfl, rfl, pow_ok (by decide), a, _, 10 ^ 9, rfl, h2, by decide, fun H3 f3 h3 => ?_⟩
  refine ⟨_, _, rfl, rfl, _, rfl, _, rfl, _, _, rfl, rfl, (by show 2 ≤ sizeLine; decide), fun p hp => ?_⟩
  refine ⟨_, rfl, _, _, rfl, rfl, (by show (0 : Int) < 2; decide), p, _, _, _, rfl, rfl, SqL.of upd_same, atI_ints (l := [_, _]) (Int.emod_nonneg _ (by decide)) (by have := Int.emod_lt_of_pos x (show (0 : Int) < 2 by decide); simpa using this), ?_⟩
  exact k _ (f1.trans (f2.trans (f3.trans (Fr.new hp)))) (h3.new hp)
end
end FK
/-! FKG2 -/
set_option maxHeartbeats 4000000
namespace FK
open PySem PySem.Spec PyProof.Rows L2
open TL (tl)
/-! ### a word -/
theorem tl_abc : (("abcdefghijklmnopqrstuvwxyz" : Str)).cps.toList = letters := by decide +kernel
theorem len_abc : (("abcdefghijklmnopqrstuvwxyz" : Str)).length ≤ sizeLine := by decide +kernel
/-- the text of one sign -/
abbrev sg (c : Nat) : Str := ⟨#[c]⟩
theorem joinL_nil : ∀ cs : List Nat, TL.joinL [] (cs.map fun c => [c]) = cs
  | [] => rfl
  | [c] => rfl
  | c :: d :: r => by
    show [c] ++ ([] ++ TL.joinL [] ((d :: r).map fun c => [c])) = _
    rw [joinL_nil (d :: r)]
    rfl
theorem join_signs (cs : List Nat) : Txt.join ("" : Str) (cs.map sg) = ⟨cs.toArray⟩ := by
  refine TL.ext_tl ?_
  rw [TL.join_eq, TL.tl_join, List.map_map]
  exact joinL_nil cs
theorem LI.keep {H : Hp} {a p : Addr} {l : List Int} {o : HO} (h : LI H a l) (n : a ≠ p) : LI (upd H p o) a l := by
  show upd H p o a = _
  rw [upd_ne n]
  exact h
theorem sum_ones : ∀ n : Nat, ((List.range n).map fun _ => 1).sum = n
  | 0 => rfl
  | n + 1 => by rw [List.range_succ, List.map_append, List.sum_append, sum_ones n]; rfl
def letterAt (i : Int) : Nat := letters.getD (i % 26).toNat 0
def wordSign (cell size : Int) (k : Nat) : Nat := letterAt (cell / (1 + (k : Int) * k * k) + k * size)
def wordOf (cell size : Int) : Str := ⟨((List.range size.toNat).map (wordSign cell size)).toArray⟩
def gWord (l : List Int) : Str × List Int := (wordOf (gNext (gNext l 8).2 1000000007).1 (1 + (gNext l 8).1), (gNext (gNext l 8).2 1000000007).2)
def spWord : Sp := fun vs H Q _ => ∃ (a : Addr) (l : List Int), vs = [.ref a] ∧ LI H a l ∧
  ∀ H', Fr [a] H H' → LI H' a (gWord l).2 → Q (.str (gWord l).1) H'
theorem emod_lo (a : Int) {b : Int} (h : 0 < b) : 0 ≤ a % b := Int.emod_nonneg _ (by omega)
theorem emod_hi (a : Int) {b : Int} (h : 0 < b) : a % b < b := Int.emod_lt_of_pos _ h
theorem atI_letter (i : Int) : atI (("abcdefghijklmnopqrstuvwxyz" : Str)).cps.toList (i % 26) = some (letterAt i) := by
  rw [tl_abc]
  exact atI_nats (emod_lo i (by decide)) (by have := emod_hi i (show (0 : Int) < 26 by decide); simpa [letters] using this)
theorem cube_ok : ∀ i : Nat, i < 9 → 0 < 1 + (i : Int) * i * i ∧ (1 + (i : Int) * i * i).natAbs < 2 ^ 20 := by decide
section
variable {P : Program} {w : World} {K : PySem.W.Frag} {mg : Str → Option Value} {base : Heap}
theorem sc_g_word : FnScope ["_law_deck_here", "_law_letters", "_law_size", "_law_cell", "_law_k"] ["_law_deck_here"] (defScope s_g_word) := C8.fnScope_by (by decide +kernel)
theorem ok_word (T : TX K mg) : C8.Cal P w K mg base 2 "_law_word" spWord [] := by
  have c__law_next : C8.Cal P w K mg base 1 "_law_next" spNext [] := ok_next T
  refine cal_of T.f_g_word T.g__law_word sc_g_word (fun _ _ _ _ _ _ us hl => match us, hl with | [_], _ => rfl) (fun vs H Q E h => ?_) (fun cdv A outer s H vs Q E hr h => ?_)
  · obtain ⟨a, l, rfl, _⟩ := h
    rfl
  obtain ⟨a, l, rfl, ha, k⟩ := h
  refine ⟨_, (pss_cons (ps_set (i := 1) sc_g_word.nd rfl (by first | exact Or.inl rfl | exact Or.inr rfl) pe_str)
      (pss_cons (ps_set (i := 2) sc_g_word.nd rfl (by first | exact Or.inl rfl | exact Or.inr rfl) (pe_op op_add pe_int (C8.pe_c c__law_next hr (by omega) (by rfl) (pa_cons (pv 0) (pa_cons pe_int pa_nil)))))
      (pss_cons (ps_set (i := 3) sc_g_word.nd rfl (by first | exact Or.inl rfl | exact Or.inr rfl) (C8.pe_c c__law_next hr (by omega) (by rfl) (pa_cons (pv 0) (pa_cons pe_int pa_nil))))
      (pss_one (ps_ret (pe_join pe_str (pe_lc (own := [("_law_k", 4)]) (by rfl) sc_g_word.nd (pi_range1 (by rfl) T.z_range (pa_cons (pv 2) pa_nil)) (blkOk_by (own := [("_law_k", 4)]) (N := ["_law_deck_here", "_law_letters", "_law_size", "_law_cell", "_law_k"]) (sc := defScope s_g_word) (by decide +kernel)) (fun _ _ _ _ _ => (pg_name (i := 4) sc_g_word.nd rfl (by first | exact Or.inl rfl | exact Or.inr rfl))) (fun _ _ _ _ _ => pts_nil) (fun _ _ _ _ _ => (pe_ix ix_str (pv 1) (pe_op op_mod (pe_op op_add (pe_op op_fdivW (pv 3) (pe_op op_add pe_int (pe_op op_mul (pe_op op_mul (pv 4) (pv 4)) (pv 4)))) (pe_op op_mul (pv 4) (pv 2))) pe_int) (fun _ _ => rfl)))))))))), ?_⟩
  refine ⟨_, rfl, a, l, 8, rfl, ha, by decide, fun H1 f1 h1 => ?_⟩
  have lo := gNext_lo l (show (0 : Int) < 8 by decide)
  have hi := gNext_hi l (show (0 : Int) < 8 by decide)
  unfold gWord at k
  generalize hx : (gNext l 8).1 = x at *
  generalize hy : (gNext l 8).2 = l1 at *
  refine ⟨_, _, rfl, rfl, _, rfl, a, l1, 1000000007, rfl, h1, by decide, fun H2 f2 h2 => ?_⟩
  have clo := gNext_lo l1 (show (0 : Int) < 1000000007 by decide)
  have chi := gNext_hi l1 (show (0 : Int) < 1000000007 by decide)
  generalize hc : (gNext l1 1000000007).1 = c at *
  generalize hz : (gNext l1 1000000007).2 = l2 at *
  refine ⟨⟨_, rfl⟩, _, rfl, 1 + x, rfl, by omega, by omega, fun D hD => ?_⟩
  refine lc_range (lo := 0) (n := (1 + x).toNat) (fun i H => LI H a l2 ∧ Fr [a] H2 H ∧ H D = some (.lst (((List.range i).map fun k => sg (wordSign c (1 + x) k)).map V.str)))
    ⟨h2.new hD, Fr.new hD, upd_same⟩ (fun i H3 hi3 ⟨g1, g2, g3⟩ => ?_) (fun H3 ⟨g1, g2, g3⟩ => ?_)
  · have hi8 : i < 9 := by omega
    obtain ⟨q1, q2⟩ := cube_ok i hi8
    refine ⟨rfl, _, rfl, _, rfl, _, rfl, _, rfl, _, _, rfl, rfl, .inl ⟨by omega, by omega⟩, _, rfl, ?_⟩
    rw [Int.zero_add]
    refine ⟨_, _, rfl, rfl, .inr ⟨by omega, by omega⟩, _, _, rfl, rfl, _, _, rfl, rfl, wide_div q1 q2 (by decide) (by decide), _, rfl, _, rfl, _, _, rfl, rfl, .inl ⟨by omega, by omega⟩, _, _, rfl, rfl, _, _, rfl, rfl, (by show (0 : Int) < 26; decide), ?_⟩
    refine ⟨_, _, _, rfl, rfl, len_abc, atI_letter _, _, g3, ?_, ?_⟩
    · rw [List.length_map, List.length_map, List.length_range]
      exact sl_lt (by omega)
    · refine ⟨LI.keep g1 (ne_of_none h2 hD), g2.put_new hD, ?_⟩
      rw [upd_same, List.range_succ, List.map_append, List.map_append]
      rfl
  · refine ⟨_, D, (List.range (1 + x).toNat).map fun k => sg (wordSign c (1 + x) k), rfl, rfl, .inl (SqL.of g3), ?_, ?_⟩
    · rw [List.map_map]
      have e : (List.range (1 + x).toNat).map ((fun y : Str => y.length) ∘ fun k => sg (wordSign c (1 + x) k)) = (List.range (1 + x).toNat).map fun _ => 1 := List.map_congr_left fun _ _ => rfl
      rw [e, List.length_map, List.length_range]
      have z := sum_ones (1 + x).toNat
      have z2 : (("" : Str)).length = 0 := by decide +kernel
      rw [z, z2]
      omega
    · have e : Txt.join ("" : Str) ((List.range (1 + x).toNat).map fun k => sg (wordSign c (1 + x) k)) = wordOf c (1 + x) := by
        have z := join_signs ((List.range (1 + x).toNat).map (wordSign c (1 + x)))
        rw [List.map_map] at z
        exact z
      rw [e]
      exact k H3 (f1.trans (f2.trans g2)) g1
end
end FK
/-! FKG3 -/
set_option maxHeartbeats 4000000
namespace FK
open PySem PySem.Spec PyProof.Rows L2
open TL (tl)
/-! ### a value -/
def gList {α : Type} (f : List Int → α × List Int) : Nat → List Int → List α × List Int
  | 0, l => ([], l)
  | n + 1, l => ((gList f n l).1 ++ [(f (gList f n l).2).1], (f (gList f n l).2).2)
theorem gList_len {α : Type} (f : List Int → α × List Int) : ∀ (n : Nat) (l : List Int), (gList f n l).1.length = n
  | 0, _ => rfl
  | n + 1, l => by rw [gList, List.length_append, gList_len f n l]; rfl
def putD (l : List (Str × D)) (w : Str) (d : D) : List (Str × D) :=
  if (l.any fun p => decide (p.1 = w)) = true then l.map (fun p => if p.1 = w then (p.1, d) else p) else l ++ [(w, d)]
def gRec (f : List Int → D × List Int) : Nat → List Int → List (Str × D) × List Int
  | 0, l => ([], l)
  | n + 1, l => (putD (gRec f n l).1 (gWord (gRec f n l).2).1 (f (gWord (gRec f n l).2).2).1, (f (gWord (gRec f n l).2).2).2)
def gValue : Nat → List Int → D × List Int
  | 0, l =>
    if (gNext l 8).1 = 3 ∨ (gNext l 8).1 = 4 then (.str (gWord (gNext l 8).2).1, (gWord (gNext l 8).2).2)
    else (.int (gNumber (gNext l 8).2).1, (gNumber (gNext l 8).2).2)
  | n + 1, l =>
    if (gNext l 8).1 = 3 ∨ (gNext l 8).1 = 4 then (.str (gWord (gNext l 8).2).1, (gWord (gNext l 8).2).2)
    else if (gNext l 8).1 = 5 ∨ (gNext l 8).1 = 6 then
      (.tup (gList (gValue n) (gNext (gNext l 8).2 4).1.toNat (gNext (gNext l 8).2 4).2).1, (gList (gValue n) (gNext (gNext l 8).2 4).1.toNat (gNext (gNext l 8).2 4).2).2)
    else if (gNext l 8).1 = 7 then
      (.dct (gRec (gValue n) (gNext (gNext l 8).2 4).1.toNat (gNext (gNext l 8).2 4).2).1, (gRec (gValue n) (gNext (gNext l 8).2 4).1.toNat (gNext (gNext l 8).2 4).2).2)
    else (.int (gNumber (gNext l 8).2).1, (gNumber (gNext l 8).2).2)
theorem repK_any {H : Hp} {w : Str} : ∀ {l : List (Str × D)} {ks : List (Key × V)}, RepK H l ks → (ks.any fun kv => decide (kv.1 = Sum.inr w)) = l.any fun p => decide (p.1 = w)
  | [], ks, h => by rw [repK_nil.mp h]; rfl
  | p :: r, ks, h => by
    obtain ⟨x, s, rfl, h1, h2⟩ := repK_cons.mp h
    rw [List.any_cons, List.any_cons, repK_any h2]
    congr 1
    by_cases c : p.1 = w
    · rw [decide_eq_true c, decide_eq_true (by rw [c])]
    · rw [decide_eq_false c, decide_eq_false (fun z => c (Sum.inr.inj z))]
theorem repK_map {H : Hp} {w : Str} {d : D} {x : V} (g : Rep H d x) : ∀ {l : List (Str × D)} {ks : List (Key × V)}, RepK H l ks → RepK H (l.map fun p => if p.1 = w then (p.1, d) else p) (ks.map fun kv => if kv.1 = Sum.inr w then (kv.1, x) else kv)
  | [], ks, h => by rw [repK_nil.mp h]; exact repK_nil.mpr rfl
  | p :: r, ks, h => by
    obtain ⟨y, s, rfl, h1, h2⟩ := repK_cons.mp h
    rw [List.map_cons, List.map_cons]
    by_cases c : p.1 = w
    · rw [if_pos c, if_pos (by rw [c])]
      exact repK_cons.mpr ⟨x, _, rfl, g, repK_map g h2⟩
    · rw [if_neg c, if_neg (fun z => c (Sum.inr.inj z))]
      exact repK_cons.mpr ⟨y, _, rfl, h1, repK_map g h2⟩
theorem repK_put {H : Hp} {w : Str} {d : D} {x : V} {l : List (Str × D)} {ks : List (Key × V)} (h : RepK H l ks) (g : Rep H d x) : RepK H (putD l w d) (putK ks (Sum.inr w) x) := by
  unfold putD putK
  rw [repK_any h]
  by_cases c : (l.any fun p => decide (p.1 = w)) = true
  · rw [if_pos c, if_pos c]
    exact repK_map g h
  · rw [if_neg c, if_neg c]
    exact repK_snoc h g
theorem putD_len (l : List (Str × D)) (w : Str) (d : D) : (putD l w d).length ≤ l.length + 1 := by
  unfold putD
  by_cases c : (l.any fun p => decide (p.1 = w)) = true
  · rw [if_pos c, List.length_map]; omega
  · rw [if_neg c, List.length_append]; simp
theorem gRec_len (f : List Int → D × List Int) : ∀ (n : Nat) (l : List Int), (gRec f n l).1.length ≤ n
  | 0, _ => Nat.le_refl _
  | n + 1, l => by
    show (putD (gRec f n l).1 (gWord (gRec f n l).2).1 (f (gWord (gRec f n l).2).2).1).length ≤ n + 1
    have a := putD_len (gRec f n l).1 (gWord (gRec f n l).2).1 (f (gWord (gRec f n l).2).2).1
    have b := gRec_len f n l
    omega
/-- n - 1: how deep; 0: not at all -/
def spValue : Nat → Sp
  | 0 => fun _ _ _ _ => False
  | n + 1 => fun vs H Q _ => ∃ (a : Addr) (l : List Int), vs = [.ref a, .int (n : Int)] ∧ n ≤ 1 ∧ LI H a l ∧
    ∀ H' v, Fr [a] H H' → LI H' a (gValue n l).2 → (n = 0 → ∀ H2, Rep H2 (gValue n l).1 v) → Rep H' (gValue n l).1 v → Q v H'
section
variable {P : Program} {w : World} {K : PySem.W.Frag} {mg : Str → Option Value} {base : Heap}
theorem sc_g_value : FnScope ["_law_deck_here", "_law_deep", "_law_way", "_law_record", "_law_k", "_law_word_here"] ["_law_deck_here", "_law_deep"] (defScope s_g_value) := C8.fnScope_by (by decide +kernel)
theorem ok_value_step (T : TX K mg) {n k : Nat} (c__law_value : C8.Cal P w K mg base (k + 2) "_law_value" (spValue n) []) : C8.Cal P w K mg base (k + 3) "_law_value" (spValue (n + 1)) [] := by
  have c__law_next : C8.Cal P w K mg base 1 "_law_next" spNext [] := ok_next T
  have c__law_word : C8.Cal P w K mg base 2 "_law_word" spWord [] := ok_word T
  have c__law_number : C8.Cal P w K mg base 2 "_law_number" spNumber [] := ok_number T
  refine cal_of T.f_g_value T.g__law_value sc_g_value (fun _ _ _ _ _ _ us hl => match us, hl with | [_, _], _ => rfl) (fun vs H Q E h => ?_) (fun cdv A outer s H vs Q E hr h => ?_)
  · obtain ⟨a, l, rfl, _⟩ := h
    rfl
  obtain ⟨a, l, rfl, hn, ha, k⟩ := h
  have hu := hu_of hr
  refine ⟨_, (pss_cons (ps_set (i := 2) sc_g_value.nd rfl (by first | exact Or.inl rfl | exact Or.inr rfl) (C8.pe_c c__law_next hr (by omega) (by rfl) (pa_cons (pv 0) (pa_cons pe_int pa_nil))))
      (pss_cons (ps_if (PW.pt (pw_or (pt_cmpR op_eq (pv 2) pe_int (nomark _)) (pw_or1 (pt_cmpR op_eq (pv 2) pe_int (nomark _))))) (pss_one (ps_ret (C8.pe_c c__law_word hr (by omega) (by rfl) (pa_cons (pv 0) pa_nil)))) pss_nil)
      (pss_cons (ps_if (PW.pt (pw_and (pt_cmpR op_gt (pv 1) pe_int (nomark _)) (pw_and1 (PW.pt (pw_or (pt_cmpR op_eq (pv 2) pe_int (nomark _)) (pw_or1 (pt_cmpR op_eq (pv 2) pe_int (nomark _)))))))) (pss_one (ps_ret (pe_callTy call_tuple_of (by rfl) T.z_tuple (by decide +kernel) (pa_cons (pe_lc (own := [("_law_k", 4)]) (by rfl) sc_g_value.nd (pi_range1 (by rfl) T.z_range (pa_cons (C8.pe_c c__law_next hr (by omega) (by rfl) (pa_cons (pv 0) (pa_cons pe_int pa_nil))) pa_nil)) (blkOk_by (own := [("_law_k", 4)]) (N := ["_law_deck_here", "_law_deep", "_law_way", "_law_record", "_law_k", "_law_word_here"]) (sc := defScope s_g_value) (by decide +kernel)) (fun _ _ _ _ _ => (pg_name (i := 4) sc_g_value.nd rfl (by first | exact Or.inl rfl | exact Or.inr rfl))) (fun _ _ _ _ _ => pts_nil) (fun _ _ _ _ _ => (C8.pe_c c__law_value hr (by omega) (by rfl) (pa_cons (pv 0) (pa_cons (pe_op op_sub (pv 1) pe_int) pa_nil))))) pa_nil)))) pss_nil)
      (pss_cons (ps_if (PW.pt (pw_and (pt_cmpR op_gt (pv 1) pe_int (nomark _)) (pw_and1 (pt_cmpR op_eq (pv 2) pe_int (nomark _))))) (pss_cons (ps_set (i := 3) sc_g_value.nd rfl (by first | exact Or.inl rfl | exact Or.inr rfl) pe_dnewK)
      (pss_cons (ps_for PassesOwn.never rfl (pi_range1 (by rfl) T.z_range (pa_cons (C8.pe_c c__law_next hr (by omega) (by rfl) (pa_cons (pv 0) (pa_cons pe_int pa_nil))) pa_nil)) (pg_name (i := 4) sc_g_value.nd rfl (by first | exact Or.inl rfl | exact Or.inr rfl))
        (pss_cons (ps_set (i := 5) sc_g_value.nd rfl (by first | exact Or.inl rfl | exact Or.inr rfl) (C8.pe_c c__law_word hr (by omega) (by rfl) (pa_cons (pv 0) pa_nil)))
      (pss_one (ps_dput hu (pv 3) (pv 5) (C8.pe_c c__law_value hr (by omega) (by rfl) (pa_cons (pv 0) (pa_cons (pe_op op_sub (pv 1) pe_int) pa_nil))) rfl))))
      (pss_one (ps_ret (pv 3))))) pss_nil)
      (pss_one (ps_ret (C8.pe_c c__law_number hr (by omega) (by rfl) (pa_cons (pv 0) pa_nil)))))))), ?_⟩
  refine ⟨_, rfl, a, l, 8, rfl, ha, by decide, fun H1 f1 h1 => ?_⟩
  have lo := gNext_lo l (show (0 : Int) < 8 by decide)
  have hi := gNext_hi l (show (0 : Int) < 8 by decide)
  have i1 := f1.imm1 ha
  have eW : ((gNext l 8).1 = 3 ∨ (gNext l 8).1 = 4) → gValue n l = (.str (gWord (gNext l 8).2).1, (gWord (gNext l 8).2).2) := fun c => by
    cases n with
    | zero => rw [gValue, if_pos c]
    | succ m => rw [gValue, if_pos c]
  have word : ((gNext l 8).1 = 3 ∨ (gNext l 8).1 = 4) → ∃ (a' : Addr) (l' : List Int), [V.ref a] ++ [] = [.ref a'] ∧ LI H1 a' l' ∧ ∀ H', Fr [a'] H1 H' → LI H' a' (gWord l').2 → Q (.str (gWord l').1) H' := fun c => by
    rw [eW c] at k
    exact ⟨a, _, rfl, h1, fun H2 f2 h2 => k H2 _ (f1.trans f2) h2 (fun _ _ => .str) .str⟩
  refine ⟨_, rfl, rfl, _, rfl, ifI (fun c3 => ⟨_, rfl, word (.inl c3)⟩) fun c3 => ⟨_, rfl, rfl, _, rfl, ifI (fun c4 => ⟨_, rfl, word (.inr c4)⟩) fun c4 => ?_⟩⟩
  have c34 : ¬ ((gNext l 8).1 = 3 ∨ (gNext l 8).1 = 4) := fun z => z.elim c3 c4
  have numb : gValue n l = (.int (gNumber (gNext l 8).2).1, (gNumber (gNext l 8).2).2) → ∃ (v : V), [some (V.ref a), some (V.int (n : Int)), some (V.int (gNext l 8).1), none, none, none][0]? = some (some v) ∧ ∃ (a' : Addr) (l' : List Int), [v] ++ [] = [.ref a'] ∧ LI H1 a' l' ∧ ∀ H', Fr [a'] H1 H' → LI H' a' (gNumber l').2 → Q (.int (gNumber l').1) H' := fun e => by
    rw [e] at k
    exact ⟨_, rfl, a, _, rfl, h1, fun H2 f2 h2 => k H2 _ (f1.trans f2) h2 (fun _ _ => .int) .int⟩
  refine ⟨_, rfl, _, _, rfl, rfl, _, rfl, ?_⟩
  cases n with
  | zero =>
    refine ifB (fun q => absurd q (by decide)) (fun _ => ?_)
    refine ⟨_, rfl, _, _, rfl, rfl, _, rfl, ifB (fun q => absurd q (by decide)) (fun _ => ?_)⟩
    exact numb (by rw [gValue, if_neg c34])
  | succ m =>
    have m0 : m = 0 := by omega
    subst m0
    refine ifB (fun _ => ?_) (fun q => absurd (show (0 : Int) < ((0 + 1 : Nat) : Int) by decide) q)
    have e4 := gNext_lo (gNext l 8).2 (show (0 : Int) < 4 by decide)
    have e5 := gNext_hi (gNext l 8).2 (show (0 : Int) < 4 by decide)
    refine (fun (main : ((gNext l 8).1 = 5 ∨ (gNext l 8).1 = 6) → _) => ⟨_, rfl, rfl, _, rfl, ifI (fun c => main (.inl c)) fun c => ⟨_, rfl, rfl, _, rfl, ifI (fun d => main (.inr d)) fun d => ?rest⟩⟩) ?mn
    case mn =>
      intro c56
      have e : gValue 1 l = (.tup (gList (gValue 0) (gNext (gNext l 8).2 4).1.toNat (gNext (gNext l 8).2 4).2).1, (gList (gValue 0) (gNext (gNext l 8).2 4).1.toNat (gNext (gNext l 8).2 4).2).2) := by
        rw [gValue, if_neg c34, if_pos c56]
      rw [e] at k
      refine ⟨_, rfl, a, _, 4, rfl, h1, by decide, fun H2 f2 h2 => ⟨_, rfl, by omega, by omega, fun D hD => ?_⟩⟩
      refine lc_range (lo := 0) (n := (gNext (gNext l 8).2 4).1.toNat) (fun i H => LI H a (gList (gValue 0) i (gNext (gNext l 8).2 4).2).2 ∧ Fr [a] H2 H ∧ ∃ xs, H D = some (.lst xs) ∧ ∀ H4, RepL H4 (gList (gValue 0) i (gNext (gNext l 8).2 4).2).1 xs)
        ⟨h2.new hD, Fr.new hD, [], upd_same, fun _ => RepL.nil⟩ (fun i H3 hi3 ⟨g1, g2, xs, g3, g4⟩ => ?_) (fun H3 ⟨g1, g2, xs, g3, g4⟩ => ?_)
      · refine ⟨rfl, _, rfl, _, rfl, _, _, rfl, rfl, a, _, rfl, by decide, g1, fun H4 v f4 h4 fl rp => ?_⟩
        have ne : a ≠ D := ne_of_none h2 hD
        refine ⟨xs, f4.at g3 (by simp; exact ne.symm), ?_, LI.keep h4 ne, (g2.trans f4).put_new hD, xs ++ [v], upd_same, fun H5 => (g4 H5).snoc (fl rfl H5)⟩
        rw [(g4 H3).length, gList_len]
        exact sl_lt (by omega)
      · refine ⟨D, xs, rfl, .inl ⟨SqL.of g3, fun t ht => ?_⟩⟩
        exact k _ _ (f1.trans (f2.trans (g2.trans (Fr.new ht)))) (g1.new ht) (fun z => absurd z (by decide)) (rep_new ht (g4 _))
    case rest =>
      have c56 : ¬ ((gNext l 8).1 = 5 ∨ (gNext l 8).1 = 6) := fun z => z.elim c d
      refine ⟨_, rfl, _, _, rfl, rfl, _, rfl, ifB (fun _ => ?_) (fun q => absurd (show (0 : Int) < ((0 + 1 : Nat) : Int) by decide) q)⟩
      refine ⟨_, rfl, rfl, _, rfl, ifI (fun c7 => ?_) fun c7 => ?_⟩
      · have e : gValue 1 l = (.dct (gRec (gValue 0) (gNext (gNext l 8).2 4).1.toNat (gNext (gNext l 8).2 4).2).1, (gRec (gValue 0) (gNext (gNext l 8).2 4).1.toNat (gNext (gNext l 8).2 4).2).2) := by
          rw [gValue, if_neg c34, if_neg c56, if_pos c7]
        rw [e] at k
        intro p hp
        have np : a ≠ p := ne_of_none h1 hp
        refine ⟨_, rfl, a, _, 4, rfl, h1.new hp, by decide, fun H2 f2 h2 => ⟨_, rfl, by omega, by omega, ?_⟩⟩
        have p2 : H2 p = some (.dK []) := f2.at upd_same (by simp; exact np.symm)
        refine for_range (lo := 0) (n := (gNext (gNext l 8).2 4).1.toNat) (fun i σ H => ∃ vk vw ks, σ = [some (V.ref a), some (V.int 1), some (V.int (gNext l 8).1), some (V.ref p), vk, vw] ∧ H p = some (.dK ks) ∧ LI H a (gRec (gValue 0) i (gNext (gNext l 8).2 4).2).2 ∧ Fr [a] H1 H ∧ ∀ H4, RepK H4 (gRec (gValue 0) i (gNext (gNext l 8).2 4).2).1 ks)
          ⟨none, none, [], rfl, p2, h2, (Fr.new hp).trans f2, fun _ => repK_nil.mpr rfl⟩ ?_ ?_
        · rintro i σ H3 hi3 ⟨vk, vw, ks, rfl, g0, g1, g2, g3⟩
          refine ⟨_, rfl, a, _, rfl, g1, fun H4 f4 h4 => ?_⟩
          refine ⟨_, rfl, _, rfl, _, _, rfl, rfl, a, _, rfl, by decide, h4, fun H5 v f5 h5 fl rp => ?_⟩
          have p5 : H5 p = some (.dK ks) := (f4.trans f5).at g0 (by simp; exact np.symm)
          refine ⟨_, rfl, _, rfl, p, _, rfl, DPut.k (k := Sum.inr (gWord (gRec (gValue 0) i (gNext (gNext l 8).2 4).2).2).1) p5 ?_, ?_⟩
          · rw [repK_length (g3 H3)]
            exact sl_lt (by have := gRec_len (gValue 0) i (gNext (gNext l 8).2 4).2; omega)
          · exact ⟨_, _, _, rfl, upd_same, LI.keep h5 np, (g2.trans (f4.trans f5)).put_new hp, fun H6 => repK_put (g3 H6) (fl rfl H6)⟩
        · rintro σ H3 ⟨vk, vw, ks, rfl, g0, g1, g2, g3⟩
          exact ⟨_, rfl, k _ _ (f1.trans g2) g1 (fun z => absurd z (by decide)) (rep_dct.mpr ⟨p, ks, rfl, g0, g3 _⟩)⟩
      · exact numb (by rw [gValue, if_neg c34, if_neg c56, if_neg c7])
theorem ok_value (T : TX K mg) : ∀ n, C8.Cal P w K mg base (n + 2) "_law_value" (spValue n) []
  | 0 => by
    obtain ⟨f, fd, ps, ds, F, a, b, c, d⟩ := (cal_none (P := P) (w := w) (base := base) T.f_g_value T.g__law_value (ps := ["_law_deck_here", "_law_deep"]) (sp := spValue 0) (fun _ _ _ _ _ _ us hl => match us, hl with | [_, _], _ => rfl) fun vs H Q E h => h).ex
    exact ⟨f, fd, ps, ds, F.mono (by decide), a, b, c, d⟩
  | n + 1 => ok_value_step T (k := n) (ok_value T n)
end
end FK
/-! FKG4 -/
set_option maxHeartbeats 400000
namespace FK
open PySem PySem.Spec PyProof.Rows L2
open TL (tl)
/-! ### a large value -/
def nestT (d : D) : Nat → D
  | 0 => d
  | n + 1 => .tup [nestT d n]
def nestK (w : Str) (d : D) : Nat → D
  | 0 => d
  | n + 1 => .dct [(w, nestK w d n)]
def bigRow (cell : Int) (n : Nat) : List D := (List.range n).map fun k : Nat => .int (cell * ((k : Int) + 1) % 1999 - 999)
def bigKey (cell : Int) (k : Nat) : Str := sg (letterAt (cell + 7 * (k : Int))) ++ sg (letters.getD ((k : Int) / 26).toNat 0)
def bigRec (cell : Int) : Nat → List (Str × D)
  | 0 => []
  | n + 1 => putD (bigRec cell n) (bigKey cell n) (.int (cell * (n : Int) % 1999))
@[irreducible] def bigAll (cell : Int) : List (Str × D) := bigRec cell 59
theorem bigAll_eq (cell : Int) : bigAll cell = bigRec cell 59 := by unfold bigAll; rfl
def gLarge (l : List Int) : D × List Int :=
  if (gNext l 5).1 = 0 then (.tup (bigRow (gNext (gNext l 5).2 1000003).1 59), (gNext (gNext l 5).2 1000003).2)
  else if (gNext l 5).1 = 1 then (.tup (List.replicate ((gNext (gNext l 5).2 1000003).1 % 60).toNat (.tup [])), (gNext (gNext l 5).2 1000003).2)
  else if (gNext l 5).1 = 2 then (nestT (.int (gNumber (gNext (gNext l 5).2 1000003).2).1) 59, (gNumber (gNext (gNext l 5).2 1000003).2).2)
  else if (gNext l 5).1 = 3 then (nestK (gWord (gNumber (gNext (gNext l 5).2 1000003).2).2).1 (.int (gNumber (gNext (gNext l 5).2 1000003).2).1) 59, (gWord (gNumber (gNext (gNext l 5).2 1000003).2).2).2)
  else (.dct (bigAll (gNext (gNext l 5).2 1000003).1), (gNumber (gNext (gNext l 5).2 1000003).2).2)
def spLarge : Sp := fun vs H Q _ => ∃ (a : Addr) (l : List Int), vs = [.ref a] ∧ LI H a l ∧
  ∀ H' v, Fr [a] H H' → LI H' a (gLarge l).2 → Rep H' (gLarge l).1 v → Q v H'
theorem bigRec_len (cell : Int) : ∀ n, (bigRec cell n).length ≤ n
  | 0 => Nat.le_refl _
  | n + 1 => by
    have a := putD_len (bigRec cell n) (bigKey cell n) (.int (cell * (n : Int) % 1999))
    have b := bigRec_len cell n
    show (putD (bigRec cell n) (bigKey cell n) (.int (cell * (n : Int) % 1999))).length ≤ n + 1
    omega
theorem bigRec_flat (cell : Int) : ∀ (n : Nat), ∃ ks : List (Key × V), ∀ H : Hp, RepK H (bigRec cell n) ks
  | 0 => ⟨[], fun _ => repK_nil.mpr rfl⟩
  | n + 1 => by
    obtain ⟨ks, h⟩ := bigRec_flat cell n
    exact ⟨_, fun H => repK_put (h H) .int⟩
section
variable {P : Program} {w : World} {K : PySem.W.Frag} {mg : Str → Option Value} {base : Heap}
theorem sc_g_large : FnScope ["_law_deck_here", "_law_way", "_law_cell", "_law_letters", "_law_value_here", "_law_record", "_law_k", "_law_word_here"] ["_law_deck_here"] (defScope s_g_large) := C8.fnScope_by (by decide +kernel)
theorem ok_large (T : TX K mg) : C8.Cal P w K mg base 3 "_law_large" spLarge [] := by
  have c__law_next : C8.Cal P w K mg base 1 "_law_next" spNext [] := ok_next T
  have c__law_word : C8.Cal P w K mg base 2 "_law_word" spWord [] := ok_word T
  have c__law_number : C8.Cal P w K mg base 2 "_law_number" spNumber [] := ok_number T
  refine cal_of T.f_g_large T.g__law_large sc_g_large (fun _ _ _ _ _ _ us hl => match us, hl with | [_], _ => rfl) (fun vs H Q E h => ?_) (fun cdv A outer s H vs Q E hr h => ?_)
  · obtain ⟨a, l, rfl, _⟩ := h
    rfl
  obtain ⟨a, l, rfl, ha, k⟩ := h
  have hu := hu_of hr
  refine ⟨_, (pss_cons (ps_set (i := 1) sc_g_large.nd rfl (by first | exact Or.inl rfl | exact Or.inr rfl) (C8.pe_c c__law_next hr (by omega) (by rfl) (pa_cons (pv 0) (pa_cons pe_int pa_nil))))
      (pss_cons (ps_set (i := 2) sc_g_large.nd rfl (by first | exact Or.inl rfl | exact Or.inr rfl) (C8.pe_c c__law_next hr (by omega) (by rfl) (pa_cons (pv 0) (pa_cons pe_int pa_nil))))
      (pss_cons (ps_set (i := 3) sc_g_large.nd rfl (by first | exact Or.inl rfl | exact Or.inr rfl) pe_str)
      (pss_cons (ps_if (pt_cmpR op_eq (pv 1) pe_int (nomark _)) (pss_one (ps_ret (pe_callTy call_tuple_of (by rfl) T.z_tuple (by decide +kernel) (pa_cons (pe_lc (own := [("_law_k", 6)]) (by rfl) sc_g_large.nd (pi_range1 (by rfl) T.z_range (pa_cons pe_int pa_nil)) (blkOk_by (own := [("_law_k", 6)]) (N := ["_law_deck_here", "_law_way", "_law_cell", "_law_letters", "_law_value_here", "_law_record", "_law_k", "_law_word_here"]) (sc := defScope s_g_large) (by decide +kernel)) (fun _ _ _ _ _ => (pg_name (i := 6) sc_g_large.nd rfl (by first | exact Or.inl rfl | exact Or.inr rfl))) (fun _ _ _ _ _ => pts_nil) (fun _ _ _ _ _ => (pe_op op_sub (pe_op op_mod (pe_op op_mul (pv 2) (pe_op op_add (pv 6) pe_int)) pe_int) pe_int))) pa_nil)))) pss_nil)
      (pss_cons (ps_if (pt_cmpR op_eq (pv 1) pe_int (nomark _)) (pss_one (ps_ret (pe_callTy call_tuple_of (by rfl) T.z_tuple (by decide +kernel) (pa_cons (pe_lc (own := [("_law_k", 6)]) (by rfl) sc_g_large.nd (pi_range1 (by rfl) T.z_range (pa_cons (pe_op op_mod (pv 2) pe_int) pa_nil)) (blkOk_by (own := [("_law_k", 6)]) (N := ["_law_deck_here", "_law_way", "_law_cell", "_law_letters", "_law_value_here", "_law_record", "_law_k", "_law_word_here"]) (sc := defScope s_g_large) (by decide +kernel)) (fun _ _ _ _ _ => (pg_name (i := 6) sc_g_large.nd rfl (by first | exact Or.inl rfl | exact Or.inr rfl))) (fun _ _ _ _ _ => pts_nil) (fun _ _ _ _ _ => (pe_tup pa_nil))) pa_nil)))) pss_nil)
      (pss_cons (ps_set (i := 4) sc_g_large.nd rfl (by first | exact Or.inl rfl | exact Or.inr rfl) (C8.pe_c c__law_number hr (by omega) (by rfl) (pa_cons (pv 0) pa_nil)))
      (pss_cons (ps_if (pt_cmpR op_eq (pv 1) pe_int (nomark _)) (pss_cons (ps_for PassesOwn.never rfl (pi_range1 (by rfl) T.z_range (pa_cons pe_int pa_nil)) (pg_name (i := 6) sc_g_large.nd rfl (by first | exact Or.inl rfl | exact Or.inr rfl))
        (pss_one (ps_set (i := 4) sc_g_large.nd rfl (by first | exact Or.inl rfl | exact Or.inr rfl) (pe_tup (pa_cons (pv 4) pa_nil)))))
      (pss_one (ps_ret (pv 4)))) pss_nil)
      (pss_cons (ps_if (pt_cmpR op_eq (pv 1) pe_int (nomark _)) (pss_cons (ps_set (i := 7) sc_g_large.nd rfl (by first | exact Or.inl rfl | exact Or.inr rfl) (C8.pe_c c__law_word hr (by omega) (by rfl) (pa_cons (pv 0) pa_nil)))
      (pss_cons (ps_for PassesOwn.never rfl (pi_range1 (by rfl) T.z_range (pa_cons pe_int pa_nil)) (pg_name (i := 6) sc_g_large.nd rfl (by first | exact Or.inl rfl | exact Or.inr rfl))
        (pss_one (ps_set (i := 4) sc_g_large.nd rfl (by first | exact Or.inl rfl | exact Or.inr rfl) (pe_disp (pps_cons (pv 7) (pv 4) pps_nil) (by rfl) (by rfl) (fun z => by cases z) (by decide)))))
      (pss_one (ps_ret (pv 4))))) pss_nil)
      (pss_cons (ps_set (i := 5) sc_g_large.nd rfl (by first | exact Or.inl rfl | exact Or.inr rfl) pe_dnewK)
      (pss_cons (ps_for PassesOwn.never rfl (pi_range1 (by rfl) T.z_range (pa_cons pe_int pa_nil)) (pg_name (i := 6) sc_g_large.nd rfl (by first | exact Or.inl rfl | exact Or.inr rfl))
        (pss_cons (ps_set (i := 7) sc_g_large.nd rfl (by first | exact Or.inl rfl | exact Or.inr rfl) (pe_op op_add_str (pe_ix ix_str (pv 3) (pe_op op_mod (pe_op op_add (pv 2) (pe_op op_mul pe_int (pv 6))) pe_int) (fun _ _ => rfl)) (pe_ix ix_str (pv 3) (pe_op op_fdivW (pv 6) pe_int) (fun _ _ => rfl))))
      (pss_one (ps_dput hu (pv 5) (pv 7) (pe_op op_mod (pe_op op_mul (pv 2) (pv 6)) pe_int) rfl))))
      (pss_one (ps_ret (pv 5))))))))))))), ?_⟩
  refine ⟨_, rfl, a, l, 5, rfl, ha, by decide, fun H1 f1 h1 => ?_⟩
  unfold gLarge at k
  generalize hx : (gNext l 5).1 = x at *
  generalize hy : (gNext l 5).2 = l1 at *
  refine ⟨_, rfl, a, l1, 1000003, rfl, h1, by decide, fun H2 f2 h2 => ?_⟩
  have clo := gNext_lo l1 (show (0 : Int) < 1000003 by decide)
  have chi := gNext_hi l1 (show (0 : Int) < 1000003 by decide)
  generalize hc : (gNext l1 1000003).1 = c at *
  generalize hz : (gNext l1 1000003).2 = l2 at *
  have f12 := f1.trans f2
  refine ⟨_, rfl, rfl, _, rfl, ifI (fun c0 => ?_) fun c0 => ?_⟩
  · rw [if_pos c0] at k
    refine ⟨59, rfl, by decide, by decide, fun D hD => ?_⟩
    refine lc_range (lo := 0) (n := 59) (fun i H => LI H a l2 ∧ Fr [a] H2 H ∧ ∃ xs, H D = some (.lst xs) ∧ ∀ H4, RepL H4 (bigRow c i) xs)
      ⟨h2.new hD, Fr.new hD, [], upd_same, fun _ => repL_nil.mpr rfl⟩ (fun i H3 hi3 ⟨g1, g2, xs, g3, g4⟩ => ?_) (fun H3 ⟨g1, g2, xs, g3, g4⟩ => ?_)
    · refine ⟨rfl, _, rfl, _, rfl, _, _, rfl, rfl, _, _, rfl, rfl, .inl ⟨by omega, by omega⟩, _, _, rfl, rfl, (by show (0 : Int) < 1999; decide), _, _, rfl, rfl, xs, g3, ?_, LI.keep g1 (ne_of_none h2 hD), g2.put_new hD, _, upd_same, fun H5 => ?_⟩
      · rw [(g4 H3).length, bigRow, List.length_map, List.length_range]
        exact sl_lt (by omega)
      · rw [Int.zero_add, bigRow, List.range_succ, List.map_append]
        exact (g4 H5).snoc .int
    · exact ⟨D, xs, rfl, .inl ⟨SqL.of g3, fun t ht => k _ _ (f12.trans (g2.trans (Fr.new ht))) (g1.new ht) (rep_new ht (g4 _))⟩⟩
  rw [if_neg c0] at k
  refine ⟨_, rfl, rfl, _, rfl, ifI (fun c1 => ?_) fun c1 => ?_⟩
  · rw [if_pos c1] at k
    have mlo := emod_lo c (show (0 : Int) < 60 by decide)
    have mhi := emod_hi c (show (0 : Int) < 60 by decide)
    refine ⟨_, rfl, _, _, rfl, rfl, (by show (0 : Int) < 60; decide), _, rfl, by omega, by omega, fun D hD => ?_⟩
    refine lc_range (lo := 0) (n := (c % 60).toNat) (fun i H => LI H a l2 ∧ Fr [a] H2 H ∧ ∃ xs, H D = some (.lst xs) ∧ RepL H (List.replicate i (.tup [])) xs)
      ⟨h2.new hD, Fr.new hD, [], upd_same, RepL.nil⟩ (fun i H3 hi3 ⟨g1, g2, xs, g3, g4⟩ => ?_) (fun H3 ⟨g1, g2, xs, g3, g4⟩ => ?_)
    · refine ⟨rfl, (by show 0 ≤ sizeLine; decide), fun q hq => ?_⟩
      have nq : D ≠ q := ne_of_none g3 hq
      have gD : upd H3 q (.tup []) D = some (.lst xs) := by rw [upd_ne nq]; exact g3
      refine ⟨xs, gD, ?_, LI.keep (g1.new hq) (ne_of_none h2 hD), (g2.trans (Fr.new hq)).put_new hD, _, upd_same, ?_⟩
      · rw [g4.length, List.length_replicate]
        exact sl_lt (by omega)
      · rw [List.replicate_succ']
        exact ((g4.mono (imm_upd (soft_none hq))).snoc (rep_new hq RepL.nil)).mono (imm_upd (soft_lst gD))
    · exact ⟨D, xs, rfl, .inl ⟨SqL.of g3, fun t ht => k _ _ (f12.trans (g2.trans (Fr.new ht))) (g1.new ht) (rep_new ht g4)⟩⟩
  rw [if_neg c1] at k
  refine ⟨_, rfl, a, l2, rfl, h2, fun H3 f3 h3 => ?_⟩
  generalize hn : (gNumber l2).1 = n at *
  generalize hl : (gNumber l2).2 = l3 at *
  have f123 := f12.trans f3
  refine ⟨_, rfl, rfl, _, rfl, ifI (fun c2 => ?_) fun c2 => ?_⟩
  · rw [if_pos c2] at k
    refine ⟨59, rfl, by decide, by decide, ?_⟩
    refine for_range (lo := 0) (n := 59) (fun i σ H => ∃ v vk, σ = [some (V.ref a), some (V.int x), some (V.int c), some (V.str "abcdefghijklmnopqrstuvwxyz"), some v, none, vk, none] ∧ LI H a l3 ∧ Fr [a] H3 H ∧ Rep H (nestT (.int n) i) v)
      ⟨_, _, rfl, h3, Fr.refl _ _, .int⟩ ?_ ?_
    · rintro i σ H4 hi4 ⟨v, vk, rfl, g1, g2, g3⟩
      refine ⟨_, rfl, (by show 1 ≤ sizeLine; decide), fun q hq => ?_⟩
      exact ⟨_, _, rfl, g1.new hq, g2.trans (Fr.new hq), rep_new hq (.one g3)⟩
    · rintro σ H4 ⟨v, vk, rfl, g1, g2, g3⟩
      exact ⟨_, rfl, k _ _ (f123.trans g2) g1 g3⟩
  rw [if_neg c2] at k
  refine ⟨_, rfl, rfl, _, rfl, ifI (fun c3 => ?_) fun c3 => ?_⟩
  · rw [if_pos c3] at k
    refine ⟨_, rfl, a, l3, rfl, h3, fun H4 f4 h4 => ?_⟩
    generalize hw : (gWord l3).1 = z at *
    generalize hwl : (gWord l3).2 = l4 at *
    refine ⟨59, rfl, by decide, by decide, ?_⟩
    refine for_range (lo := 0) (n := 59) (fun i σ H => ∃ v vk, σ = [some (V.ref a), some (V.int x), some (V.int c), some (V.str "abcdefghijklmnopqrstuvwxyz"), some v, none, vk, some (V.str z)] ∧ LI H a l4 ∧ Fr [a] H4 H ∧ Rep H (nestK z (.int n) i) v)
      ⟨_, _, rfl, h4, Fr.refl _ _, .int⟩ ?_ ?_
    · rintro i σ H5 hi5 ⟨v, vk, rfl, g1, g2, g3⟩
      intro q hq
      refine ⟨_, rfl, _, rfl, upd_same, [(Sum.inr z, v)], rfl, (by show 1 ≤ 15; decide), ?_⟩
      rw [upd_upd]
      refine ⟨_, _, rfl, g1.new hq, g2.trans (Fr.new hq), rep_dct.mpr ⟨q, [(Sum.inr z, v)], rfl, upd_same, repK_cons.mpr ⟨v, [], rfl, g3.mono (imm_upd (soft_none hq)), repK_nil.mpr rfl⟩⟩⟩
    · rintro σ H5 ⟨v, vk, rfl, g1, g2, g3⟩
      exact ⟨_, rfl, k _ _ (f123.trans (f4.trans g2)) g1 g3⟩
  rw [if_neg c3] at k
  intro p hp
  have np : a ≠ p := ne_of_none h3 hp
  refine ⟨59, rfl, by decide, by decide, ?_⟩
  refine for_range (lo := 0) (n := 59) (fun i σ H => ∃ m, m = i ∧ ∃ vk vw ks, σ = [some (V.ref a), some (V.int x), some (V.int c), some (V.str "abcdefghijklmnopqrstuvwxyz"), some (V.int n), some (V.ref p), vk, vw] ∧ H p = some (.dK ks) ∧ LI H a l3 ∧ Fr [a] H3 H ∧ ∀ H4, RepK H4 (bigRec c m) ks)
    ⟨0, rfl, none, none, [], rfl, upd_same, h3.new hp, Fr.new hp, fun _ => repK_nil.mpr rfl⟩ ?_ ?_
  · rintro i σ H4 hi4 ⟨m, rfl, vk, vw, ks, rfl, g0, g1, g2, g3⟩
    refine ⟨_, rfl, _, rfl, _, rfl, _, _, rfl, rfl, .inl ⟨by decide, by decide⟩, _, _, rfl, rfl, _, _, rfl, rfl, (by show (0 : Int) < 26; decide), _, _, _, rfl, rfl, len_abc, atI_letter _, ?_⟩
    refine ⟨_, rfl, _, rfl, _, _, rfl, rfl, wide_div (b := 5) (by decide) (by decide) (by decide) (by decide), _, _, _, rfl, rfl, len_abc, by rw [tl_abc]; exact atI_nats (by omega) (by show _ < (26 : Int); omega), ?_⟩
    refine ⟨_, _, rfl, rfl, (by show 1 + 1 ≤ sizeLine; decide), ?_⟩
    refine ⟨_, rfl, _, rfl, _, _, rfl, rfl, .inl ⟨by omega, by omega⟩, _, _, rfl, rfl, (by show (0 : Int) < 1999; decide), ?_⟩
    rw [Int.zero_add]
    refine ⟨_, rfl, _, rfl, p, _, rfl, DPut.k (k := Sum.inr (bigKey c m)) g0 ?_, ?_⟩
    · rw [repK_length (g3 H3)]
      exact sl_lt (by have := bigRec_len c m; omega)
    · exact ⟨m + 1, rfl, _, _, _, rfl, upd_same, LI.keep g1 np, g2.put_new hp, fun H6 => repK_put (g3 H6) .int⟩
  · rintro σ H4 ⟨m, hm, vk, vw, ks, rfl, g0, g1, g2, g3⟩
    have e : bigAll c = bigRec c m := by rw [hm]; exact bigAll_eq c
    rw [e] at k
    exact ⟨_, rfl, k _ _ (f123.trans g2) g1 (rep_dct.mpr ⟨p, ks, rfl, g0, g3 _⟩)⟩
end
end FK
/-! FKG5 -/
set_option maxHeartbeats 400000
namespace FK
open PySem PySem.Spec PyProof.Rows L2
open TL (tl)
/-! ### names -/
def nameTab : List Str := ["fun", "give", "go", "fail", "if", "else", "end", "call", "is", "of", "let", "add", "kind", "same"]
def gWordName (cell : Int) (k : Nat) : Str :=
  if (k : Int) < 14 then nameTab.getD (((k : Int) + cell / 5) % 14).toNat Str.empty else ("z" : Str) ++ Str.ofString (toString (k : Int))
def both : List Nat := letters ++ figures
def bothAt (i : Int) : Nat := both.getD (i % 36).toNat 0
def nameSize (cell : Int) : Int := if 2 > 1 + cell / 5 % 8 then 2 else 1 + cell / 5 % 8
def nameSigns (cell : Int) (k : Nat) : List Nat :=
  if cell / 8 % 2 = 0 then (List.range (nameSize cell).toNat).map fun j : Nat => bothAt (cell / 1024 + (j : Int) * j)
  else (List.range (nameSize cell).toNat).map fun j : Nat => bothAt (cell / 1024 + (k : Int) * k * j + (j : Int) * j)
def nameAll (cell : Int) (k : Nat) : List Nat :=
  ((nameSigns cell k).set 0 (letterAt (cell / 64 + (k : Int) / 36))).set (1 + cell / 16 % (nameSize cell - 1)).toNat (bothAt (cell / 256 + (k : Int)))
def gName (cell : Int) (k : Nat) : Str :=
  if cell % 5 = 3 then gWordName cell k
  else if 1 + cell / 5 % 8 = 1 ∧ (k : Int) < 26 then sg (letterAt (cell / 8 + (k : Int)))
  else ⟨(nameAll cell k).toArray⟩
def spName (f : Int → Nat → Str) : Sp := fun vs H Q _ => ∃ (cell : Int) (k : Nat), vs = [.int cell, .int (k : Int)] ∧ k < 1000 ∧ ∀ H', Fr [] H H' → Q (.str (f cell k)) H'
theorem tl_both : tl (("abcdefghijklmnopqrstuvwxyz" : Str) ++ ("0123456789" : Str)) = both := by
  rw [tl_app]
  decide +kernel
theorem len_both : (("abcdefghijklmnopqrstuvwxyz" : Str) ++ ("0123456789" : Str)).length ≤ sizeLine := by
  rw [len_tl, tl_both]
  decide
theorem atI_both (i : Int) : atI (("abcdefghijklmnopqrstuvwxyz" : Str) ++ ("0123456789" : Str)).cps.toList (i % 36) = some (bothAt i) := by
  have e : (("abcdefghijklmnopqrstuvwxyz" : Str) ++ ("0123456789" : Str)).cps.toList = both := tl_both
  rw [e]
  exact atI_nats (emod_lo i (by decide)) (by have := emod_hi i (show (0 : Int) < 36 by decide); simpa [both, letters, figures] using this)
theorem ixN_in {n : Nat} {i : Int} (h0 : 0 ≤ i) (h1 : i < n) : ixN n i = some i.toNat := by
  unfold ixN
  rw [if_pos h0, if_pos h1]
theorem nameSize_lo (cell : Int) : 2 ≤ nameSize cell := by
  unfold nameSize
  split <;> omega
theorem nameSize_hi (cell : Int) : nameSize cell ≤ 8 := by
  have := emod_hi (cell / 5) (show (0 : Int) < 8 by decide)
  unfold nameSize
  split <;> omega
theorem nameSigns_len (cell : Int) (k : Nat) : (nameSigns cell k).length = (nameSize cell).toNat := by
  unfold nameSigns
  split <;> rw [List.length_map, List.length_range]
theorem sum_bound' {α : Type} {f : α → Nat} {c : Nat} : ∀ {l : List α}, (∀ x ∈ l, f x ≤ c) → (l.map f).sum ≤ l.length * c
  | [], _ => Nat.zero_le _
  | x :: r, h => by
    rw [List.map_cons, List.sum_cons, List.length_cons, Nat.succ_mul]
    have := h x List.mem_cons_self
    have := sum_bound' fun y hy => h y (List.mem_cons_of_mem x hy)
    omega
theorem small_mul {a b : Nat} (ha : a < 1000) (hb : b < 1000) : (a : Int) * b < 2 ^ 64 ∧ -(2 ^ 64) < (a : Int) * b := by
  have h : a * b ≤ 1000 * 1000 := Nat.mul_le_mul (by omega) (by omega)
  have e : (a : Int) * b = ((a * b : Nat) : Int) := by simp
  rw [e]
  omega
section
variable {P : Program} {w : World} {K : PySem.W.Frag} {mg : Str → Option Value} {base : Heap}
theorem sc_g_word_name : FnScope ["_law_cell", "_law_k", "_law_some"] ["_law_cell", "_law_k"] (defScope s_g_word_name) := C8.fnScope_by (by decide +kernel)
theorem ok_word_name (T : TX K mg) : C8.Cal P w K mg base 1 "_law_word_name" (spName gWordName) [] := by
  refine cal_of T.f_g_word_name T.g__law_word_name sc_g_word_name (fun _ _ _ _ _ _ us hl => match us, hl with | [_, _], _ => rfl) (fun vs H Q E h => ?_) (fun cdv A outer s H vs Q E hr h => ?_)
  · obtain ⟨c, n, rfl, _⟩ := h
    rfl
  obtain ⟨c, n, rfl, hn, k⟩ := h
  refine ⟨_, (pss_cons (ps_set (i := 2) sc_g_word_name.nd rfl (by first | exact Or.inl rfl | exact Or.inr rfl) (pe_lst (pa_cons pe_str (pa_cons pe_str (pa_cons pe_str (pa_cons pe_str (pa_cons pe_str (pa_cons pe_str (pa_cons pe_str (pa_cons pe_str (pa_cons pe_str (pa_cons pe_str (pa_cons pe_str (pa_cons pe_str (pa_cons pe_str (pa_cons pe_str pa_nil))))))))))))))))
      (pss_cons (ps_if (pt_cmpR op_lt (pv 1) pe_int (nomark _)) (pss_one (ps_ret (pe_ix (r := rIxL K) ix_list (pv 2) (pe_op op_mod (pe_op op_add (pv 1) (pe_op op_fdivW (pv 0) pe_int)) pe_int) (fun _ _ => rfl)))) pss_nil)
      (pss_one (ps_ret (pe_op op_add_str pe_str (pe_callTy call_str_int (by rfl) T.z_str (by decide +kernel) (pa_cons (pv 1) pa_nil))))))), ?_⟩
  unfold gWordName at k
  refine ⟨(by show 14 ≤ sizeLine; decide), fun p hp => ?_⟩
  refine ⟨_, rfl, _, _, rfl, rfl, _, rfl, ifB (fun q => ?_) fun q => ?_⟩
  · rw [if_pos q] at k
    refine ⟨_, rfl, _, rfl, _, rfl, _, _, rfl, rfl, wide_div (b := 3) (by decide) (by decide) (by decide) (by decide), _, _, rfl, rfl, _, _, rfl, rfl, (by show (0 : Int) < 14; decide), p, nameTab.map V.str, _, _, rfl, rfl, SqL.of upd_same, atI_strs (emod_lo _ (by decide)) (by have := emod_hi ((n : Int) + c / 5) (show (0 : Int) < 14 by decide); simpa [nameTab] using this), k _ (Fr.new hp)⟩
  · rw [if_neg q] at k
    refine ⟨_, rfl, _, rfl, ?_, _, _, rfl, rfl, ?_, k _ (Fr.new hp)⟩
    · have := PySem.Flt.log2_lt_of (k := 64) (by decide) (show (n : Int).natAbs < 2 ^ 64 by rw [Int.natAbs_natCast]; omega)
      omega
    · have := len_int (i := (n : Int)) ⟨by omega, by omega⟩
      have e : (("z" : Str)).length = 1 := by decide +kernel
      rw [e]
      exact sl_le (by omega)
theorem sc_g_name : FnScope ["_law_cell", "_law_k", "_law_letters", "_law_size", "_law_both", "_law_signs", "_law_j"] ["_law_cell", "_law_k"] (defScope s_g_name) := C8.fnScope_by (by decide +kernel)
theorem ok_name (T : TX K mg) : C8.Cal P w K mg base 2 "_law_name" (spName gName) [] := by
  have c__law_word_name : C8.Cal P w K mg base 1 "_law_word_name" (spName gWordName) [] := ok_word_name T
  refine cal_of T.f_g_name T.g__law_name sc_g_name (fun _ _ _ _ _ _ us hl => match us, hl with | [_, _], _ => rfl) (fun vs H Q E h => ?_) (fun cdv A outer s H vs Q E hr h => ?_)
  · obtain ⟨c, n, rfl, _⟩ := h
    rfl
  obtain ⟨c, n, rfl, hn, k⟩ := h
  refine ⟨_, (pss_cons (ps_if (pt_cmpR op_eq (pe_op op_mod (pv 0) pe_int) pe_int (nomark _)) (pss_one (ps_ret (C8.pe_c c__law_word_name hr (by omega) (by rfl) (pa_cons (pv 0) (pa_cons (pv 1) pa_nil))))) pss_nil)
      (pss_cons (ps_set (i := 2) sc_g_name.nd rfl (by first | exact Or.inl rfl | exact Or.inr rfl) pe_str)
      (pss_cons (ps_set (i := 3) sc_g_name.nd rfl (by first | exact Or.inl rfl | exact Or.inr rfl) (pe_op op_add pe_int (pe_op op_mod (pe_op op_fdivW (pv 0) pe_int) pe_int)))
      (pss_cons (ps_if (PW.pt (pw_and (pt_cmpR op_eq (pv 3) pe_int (nomark _)) (pw_and1 (pt_cmpR op_lt (pv 1) pe_int (nomark _))))) (pss_one (ps_ret (pe_ix ix_str (pv 2) (pe_op op_mod (pe_op op_add (pe_op op_fdivW (pv 0) pe_int) (pv 1)) pe_int) (fun _ _ => rfl)))) pss_nil)
      (pss_cons (ps_set (i := 3) sc_g_name.nd rfl (by first | exact Or.inl rfl | exact Or.inr rfl) (pe_callB (call_max2 rfl) (by rfl) T.z_max (by decide +kernel) (pa_cons (pv 3) (pa_cons pe_int pa_nil))))
      (pss_cons (ps_set (i := 4) sc_g_name.nd rfl (by first | exact Or.inl rfl | exact Or.inr rfl) (pe_op op_add_str (pv 2) pe_str))
      (pss_cons (ps_setLc (i := 5) (own := [("_law_j", 6)]) (by rfl) sc_g_name.nd rfl rfl (sw_true rfl rfl rfl (by decide +kernel)) (pi_range1 (by rfl) T.z_range (pa_cons (pv 3) pa_nil)) (blkOk_by (own := [("_law_j", 6)]) (N := ["_law_cell", "_law_k", "_law_letters", "_law_size", "_law_both", "_law_signs", "_law_j"]) (sc := defScope s_g_name) (by decide +kernel)) (fun _ _ _ _ _ => (pg_name (i := 6) sc_g_name.nd rfl (by first | exact Or.inl rfl | exact Or.inr rfl))) (fun _ _ _ _ _ => pts_nil) (fun _ _ _ _ _ => (pe_ix ix_str (pv 4) (pe_op op_mod (pe_op op_add (pe_op op_add (pe_op op_fdivW (pv 0) pe_int) (pe_op op_mul (pe_op op_mul (pv 1) (pv 1)) (pv 6))) (pe_op op_mul (pv 6) (pv 6))) pe_int) (fun _ _ => rfl))))
      (C8.pss_cut (ps_if (pt_cmpR op_eq (pe_op op_mod (pe_op op_fdivW (pv 0) pe_int) pe_int) pe_int (nomark _)) (pss_one (ps_setLc (i := 5) (own := [("_law_j", 6)]) (by rfl) sc_g_name.nd rfl rfl (sw_true rfl rfl rfl (by decide +kernel)) (pi_range1 (by rfl) T.z_range (pa_cons (pv 3) pa_nil)) (blkOk_by (own := [("_law_j", 6)]) (N := ["_law_cell", "_law_k", "_law_letters", "_law_size", "_law_both", "_law_signs", "_law_j"]) (sc := defScope s_g_name) (by decide +kernel)) (fun _ _ _ _ _ => (pg_name (i := 6) sc_g_name.nd rfl (by first | exact Or.inl rfl | exact Or.inr rfl))) (fun _ _ _ _ _ => pts_nil) (fun _ _ _ _ _ => (pe_ix ix_str (pv 4) (pe_op op_mod (pe_op op_add (pe_op op_fdivW (pv 0) pe_int) (pe_op op_mul (pv 6) (pv 6))) pe_int) (fun _ _ => rfl))))) pss_nil)
      (pss_cons (ps_asg (pe_ix ix_str (pv 2) (pe_op op_mod (pe_op op_add (pe_op op_fdivW (pv 0) pe_int) (pe_op op_fdivW (pv 1) pe_int)) pe_int) (fun _ _ => rfl)) (pg_sub (pv 5) pe_int set_list))
      (pss_cons (ps_asg (pe_ix ix_str (pv 4) (pe_op op_mod (pe_op op_add (pe_op op_fdivW (pv 0) pe_int) (pv 1)) pe_int) (fun _ _ => rfl)) (pg_sub (pv 5) (pe_op op_add pe_int (pe_op op_mod (pe_op op_fdivW (pv 0) pe_int) (pe_op op_sub (pv 3) pe_int))) set_list))
      (pss_one (ps_ret (pe_join pe_str (pv 5)))))))))))))), ?_⟩
  unfold gName at k
  refine ⟨_, rfl, _, _, rfl, rfl, (by show (0 : Int) < 5; decide), rfl, _, rfl, ifI (fun q => ?_) fun q => ?_⟩
  · rw [if_pos q] at k
    exact ⟨_, rfl, _, rfl, c, n, rfl, hn, k⟩
  rw [if_neg q] at k
  refine ⟨_, rfl, _, _, rfl, rfl, wide_div (b := 3) (by decide) (by decide) (by decide) (by decide), _, _, rfl, rfl, (by show (0 : Int) < 8; decide), _, _, rfl, rfl, ?_⟩
  refine (fun (go : ¬ (1 + c / 5 % 8 = 1 ∧ (n : Int) < 26) → _) => ⟨_, rfl, rfl, _, rfl, ifI (fun q1 => ⟨_, rfl, _, _, rfl, rfl, _, rfl, ifB (fun q2 => ?one) fun q2 => go fun z => q2 z.2⟩) fun q1 => go fun z => q1 z.1⟩) ?many
  case one =>
    rw [if_pos ⟨q1, q2⟩] at k
    exact ⟨_, rfl, _, rfl, _, _, rfl, rfl, wide_div (b := 4) (by decide) (by decide) (by decide) (by decide), _, rfl, _, _, rfl, rfl, _, _, rfl, rfl, (by show (0 : Int) < 26; decide), _, _, _, rfl, rfl, len_abc, atI_letter _, k H (Fr.refl _ _)⟩
  case many =>
    intro hne
    rw [if_neg hne] at k
    have s0 := nameSize_lo c
    have s1 := nameSize_hi c
    have s2 := nameSigns_len c n
    refine ⟨_, rfl, _, _, rfl, _, rfl, _, _, rfl, rfl, (by decide +kernel), ?_⟩
    refine ⟨_, rfl, nameSize c, rfl, by omega, by omega, fun D hD => ?_⟩
    refine lc_range (lo := 0) (n := (nameSize c).toNat) (fun i H1 => Fr [] H H1 ∧ H1 D = some (.lst ((((List.range i).map fun j : Nat => bothAt (c / 1024 + (n : Int) * n * j + (j : Int) * j)).map sg).map V.str))) ⟨Fr.new hD, upd_same⟩ (fun i H1 hi ⟨g1, g2⟩ => ?_) (fun H1 ⟨g1, g2⟩ => ?_)
    · refine ⟨rfl, _, rfl, _, rfl, _, _, rfl, rfl, wide_div (b := 11) (by decide) (by decide) (by decide) (by decide), _, rfl, _, rfl, _, _, rfl, rfl, .inl ⟨by omega, by omega⟩, _, rfl, ?_⟩
      rw [Int.zero_add]
      have hi8 : i < 1000 := by omega
      refine ⟨_, _, rfl, rfl, .inr ⟨by omega, by omega⟩, _, _, rfl, rfl, _, rfl, _, rfl, _, _, rfl, rfl, .inl ⟨by omega, by omega⟩, _, _, rfl, rfl, _, _, rfl, rfl, (by show (0 : Int) < 36; decide), _, _, _, rfl, rfl, len_both, atI_both _, _, g2, ?_, Fr.put_new g1 hD, ?_⟩
      · rw [List.length_map, List.length_map, List.length_map, List.length_range]
        exact sl_lt (by omega)
      · rw [upd_same, List.range_succ, List.map_append, List.map_append, List.map_append]
        rfl
    · refine ⟨fun σ H2 => ∃ D, σ = [some (V.int c), some (V.int (n : Int)), some (V.str "abcdefghijklmnopqrstuvwxyz"), some (V.int (nameSize c)), some (V.str (("abcdefghijklmnopqrstuvwxyz" : Str) ++ ("0123456789" : Str))), some (V.ref D), none] ∧ Fr [] H H2 ∧ H D = none ∧ H2 D = some (.lst (((nameSigns c n).map sg).map V.str)), ?_, ?tail⟩
      refine ⟨_, rfl, _, _, rfl, rfl, wide_div (b := 4) (by decide) (by decide) (by decide) (by decide), _, _, rfl, rfl, (by show (0 : Int) < 2; decide), rfl, _, rfl, ifI (fun q => ?_) fun q => ?_⟩
      · refine ⟨_, rfl, nameSize c, rfl, by omega, by omega, fun D2 hD2 => ?_⟩
        have hD2' : H D2 = none := (Fr.same g1).free hD2
        refine lc_range (lo := 0) (n := (nameSize c).toNat) (fun i H2 => Fr [] H H2 ∧ H2 D2 = some (.lst ((((List.range i).map fun j : Nat => bothAt (c / 1024 + (j : Int) * j)).map sg).map V.str))) ⟨Fr.trans g1 (Fr.new hD2), upd_same⟩ (fun i H2 hi ⟨g3, g4⟩ => ?_) (fun H2 ⟨g3, g4⟩ => ?_)
        · refine ⟨rfl, _, rfl, _, rfl, _, _, rfl, rfl, wide_div (b := 11) (by decide) (by decide) (by decide) (by decide), _, rfl, _, rfl, ?_⟩
          rw [Int.zero_add]
          have hi8 : i < 1000 := by omega
          refine ⟨_, _, rfl, rfl, .inl ⟨by omega, by omega⟩, _, _, rfl, rfl, _, _, rfl, rfl, (by show (0 : Int) < 36; decide), _, _, _, rfl, rfl, len_both, atI_both _, _, g4, ?_, Fr.put_new g3 hD2', ?_⟩
          · rw [List.length_map, List.length_map, List.length_map, List.length_range]
            exact sl_lt (by omega)
          · rw [upd_same, List.range_succ, List.map_append, List.map_append, List.map_append]
            rfl
        · refine ⟨D2, rfl, g3, hD2', ?_⟩
          rw [g4, nameSigns, if_pos q]
      · refine ⟨D, rfl, g1, hD, ?_⟩
        rw [g2, nameSigns, if_neg q]
      case tail =>
      rintro σ H1 ⟨D, rfl, f1, hD, g1⟩
      refine ⟨_, rfl, _, rfl, _, _, rfl, rfl, wide_div (b := 7) (by decide) (by decide) (by decide) (by decide), _, rfl, _, _, rfl, rfl, wide_div (b := 6) (by decide) (by decide) (by decide) (by decide), _, _, rfl, rfl, _, _, rfl, rfl, (by show (0 : Int) < 26; decide), _, _, _, rfl, rfl, len_abc, atI_letter _, ?_⟩
      have l1 : (((nameSigns c n).map sg).map V.str).length = (nameSize c).toNat := by rw [List.length_map, List.length_map, s2]
      refine ⟨_, rfl, D, _, 0, 0, rfl, rfl, g1, by rw [l1]; exact ixN_in (by decide) (by omega), ?_⟩
      have r0 : (0 : Int) ≤ c / 16 % (nameSize c - 1) := emod_lo _ (by omega)
      have r1 : c / 16 % (nameSize c - 1) < nameSize c - 1 := emod_hi _ (by omega)
      refine ⟨_, rfl, _, rfl, _, _, rfl, rfl, wide_div (b := 9) (by decide) (by decide) (by decide) (by decide), _, rfl, _, _, rfl, rfl, _, _, rfl, rfl, (by show (0 : Int) < 36; decide), _, _, _, rfl, rfl, len_both, atI_both _, ?_⟩
      refine ⟨_, rfl, _, rfl, _, _, rfl, rfl, wide_div (b := 5) (by decide) (by decide) (by decide) (by decide), _, rfl, _, _, rfl, rfl, _, _, rfl, rfl, (by show 0 < nameSize c - 1; omega), _, _, rfl, rfl, D, _, _, (1 + c / 16 % (nameSize c - 1)).toNat, rfl, rfl, upd_same, by rw [List.length_set, l1]; exact ixN_in (by omega) (by omega), ?_⟩
      rw [upd_upd]
      have em : ((((nameSigns c n).map sg).map V.str).set 0 (V.str (sg (letterAt (c / 64 + (n : Int) / 36))))).set (1 + c / 16 % (nameSize c - 1)).toNat (V.str (sg (bothAt (c / 256 + (n : Int))))) = ((nameAll c n).map sg).map V.str := by
        unfold nameAll
        rw [List.map_set, List.map_set, List.map_set, List.map_set]
      have lA : (nameAll c n).length = (nameSize c).toNat := by unfold nameAll; rw [List.length_set, List.length_set, s2]
      refine ⟨⟨_, rfl⟩, _, rfl, _, D, (nameAll c n).map sg, rfl, rfl, .inl (SqL.of (by rw [upd_same, ← em])), ?_, ?_⟩
      · have z2 : (("" : Str)).length = 0 := by decide +kernel
        have z3 : (((nameAll c n).map sg).map (·.length)).sum ≤ ((nameAll c n).map sg).length * 1 := sum_bound' fun x hx => by
          obtain ⟨y, _, rfl⟩ := List.mem_map.mp hx
          exact Nat.le_refl 1
        rw [z2, List.length_map, lA] at *
        omega
      · rw [join_signs]
        exact k _ (Fr.put_new f1 hD)
end
end FK
/-! FKG6 -/
set_option maxHeartbeats 400000
namespace FK
open PySem PySem.Spec PyProof.Rows L2
open TL (tl)
/-! ### ops, atoms, steps -/
def opsL : List Str := ["add2", "sub2", "mul2", "div2", "rem2", "less2", "same2", "down1", "kind1", "front2", "head1", "rest1", "many1", "item2", "put3", "field2", "set3"]
def opAt (k : Int) : Str × Nat := opTab.getD k.toNat (Str.empty, 0)
theorem ops_ok : ∀ k : Nat, k < 17 → cutS (opsL.getD k Str.empty) none (some (-1)) = (opTab.getD k (Str.empty, 0)).1 ∧ (opsL.getD k Str.empty).length ≤ 8 ∧ atI (opsL.getD k Str.empty).cps.toList (-1) = some (48 + (opTab.getD k (Str.empty, 0)).2) ∧
    PySem.intText? (sg (48 + (opTab.getD k (Str.empty, 0)).2)) = some (((opTab.getD k (Str.empty, 0)).2 : Nat) : Int) := by decide +kernel
def headD (p : Str × Nat) : D := .tup [.str p.1, .int (p.2 : Int)]
def spOp : Sp := fun vs H Q _ => ∃ k : Int, vs = [.int k] ∧ 0 ≤ k ∧ k < 17 ∧ ∀ H' v, Fr [] H H' → Rep H' (headD (opAt k)) v → Q v H'
def gAtom (scope : List Str) (l : List Int) : Atom × List Int :=
  if 0 < (gNext l 3).1 ∧ 0 < (scope.length : Int) then (.of (scope.getD (gNext (gNext l 3).2 (scope.length : Int)).1.toNat Str.empty), (gNext (gNext l 3).2 (scope.length : Int)).2)
  else (.is (gValue 1 (gNext l 3).2).1, (gValue 1 (gNext l 3).2).2)
def spAtom : Sp := fun vs H Q _ => ∃ (a s : Addr) (l : List Int) (scope : List Str), vs = [.ref a, .ref s] ∧ LI H a l ∧ H s = some (.lst (scope.map V.str)) ∧ s ≠ a ∧
  ∀ H' v, Fr [a] H H' → LI H' a (gAtom scope l).2 → Rep H' (gAtom scope l).1.d v → Q v H'
def spAtoms : Sp := fun vs H Q _ => ∃ (a s : Addr) (l : List Int) (scope : List Str) (m : Nat), vs = [.ref a, .ref s, .int (m : Int)] ∧ m ≤ 6 ∧ LI H a l ∧ H s = some (.lst (scope.map V.str)) ∧ s ≠ a ∧
  ∀ H' v, Fr [a] H H' → LI H' a (gList (gAtom scope) m l).2 → Rep H' (atomsD (gList (gAtom scope) m l).1) v → Q v H'
def headAt (heads : List (Str × Nat)) (i : Int) : Str × Nat := heads.getD i.toNat (Str.empty, 0)
def gStep (heads : List (Str × Nat)) (scope : List Str) (name : Str) (l : List Int) : Step × List Int :=
  if (gNext l 22).1 < 17 then
    (.let_ name (opAt (gNext l 22).1).1 (gList (gAtom scope) (opAt (gNext l 22).1).2 (gNext l 22).2).1, (gList (gAtom scope) (opAt (gNext l 22).1).2 (gNext l 22).2).2)
  else
    (.call name (headAt heads (gNext (gNext l 22).2 (heads.length : Int)).1).1 (gList (gAtom scope) (headAt heads (gNext (gNext l 22).2 (heads.length : Int)).1).2 (gNext (gNext l 22).2 (heads.length : Int)).2).1,
     (gList (gAtom scope) (headAt heads (gNext (gNext l 22).2 (heads.length : Int)).1).2 (gNext (gNext l 22).2 (heads.length : Int)).2).2)
/-- the heads as they stand -/
def HeadsAt (H : Hp) (hs : Addr) (heads : List (Str × Nat)) : Prop := ∃ xs, H hs = some (.lst xs) ∧ RepL H (heads.map headD) xs ∧ heads ≠ [] ∧ ∀ p ∈ heads, p.2 ≤ 6
theorem HeadsAt.keep {S : List Addr} {H H' : Hp} {hs : Addr} {heads : List (Str × Nat)} (h : HeadsAt H hs heads) (f : Fr S H H') (i : Imm H H') (n : hs ∉ S) : HeadsAt H' hs heads := by
  obtain ⟨xs, h1, h2, h3, h4⟩ := h
  exact ⟨xs, f hs _ h1 n, h2.mono i, h3, h4⟩
def spStep : Sp := fun vs H Q _ => ∃ (a hs s : Addr) (l : List Int) (heads : List (Str × Nat)) (scope : List Str) (name : Str), vs = [.ref a, .ref hs, .ref s, .str name] ∧ LI H a l ∧ HeadsAt H hs heads ∧ H s = some (.lst (scope.map V.str)) ∧ s ≠ a ∧ hs ≠ a ∧
  ∀ H' v, Fr [a] H H' → LI H' a (gStep heads scope name l).2 → Rep H' (gStep heads scope name l).1.d v → Q v H'
section
variable {P : Program} {w : World} {K : PySem.W.Frag} {mg : Str → Option Value} {base : Heap}
theorem sc_g_op : FnScope ["_law_k", "_law_some"] ["_law_k"] (defScope s_g_op) := C8.fnScope_by (by decide +kernel)
theorem ok_op (T : TX K mg) : C8.Cal P w K mg base 1 "_law_op" spOp [] := by
  refine cal_of T.f_g_op T.g__law_op sc_g_op (fun _ _ _ _ _ _ us hl => match us, hl with | [_], _ => rfl) (fun vs H Q E h => ?_) (fun cdv A outer s H vs Q E hr h => ?_)
  · obtain ⟨n, rfl, _⟩ := h
    rfl
  obtain ⟨n, rfl, h0, h1, k⟩ := h
  refine ⟨_, (pss_cons (ps_set (i := 1) sc_g_op.nd rfl (by first | exact Or.inl rfl | exact Or.inr rfl) (pe_lst (pa_cons pe_str (pa_cons pe_str (pa_cons pe_str (pa_cons pe_str (pa_cons pe_str (pa_cons pe_str (pa_cons pe_str (pa_cons pe_str (pa_cons pe_str (pa_cons pe_str (pa_cons pe_str (pa_cons pe_str pa_nil))))))))))))))
      (pss_cons (ps_set (i := 1) sc_g_op.nd rfl (by first | exact Or.inl rfl | exact Or.inr rfl) (pe_op op_cat (pv 1) (pe_lst (pa_cons pe_str (pa_cons pe_str (pa_cons pe_str (pa_cons pe_str (pa_cons pe_str pa_nil))))))))
      (pss_one (ps_ret (pe_tup (pa_cons (pe_slice sl_str (pe_ix (r := rIxL K) ix_list (pv 1) (pv 0) (fun _ _ => rfl)) po_none (po_some (pe_un un_neg pe_int))) (pa_cons (pe_callTy call_int_str (by rfl) T.z_int (by decide +kernel) (pa_cons (pe_ix ix_str (pe_ix (r := rIxL K) ix_list (pv 1) (pv 0) (fun _ _ => rfl)) (pe_un un_neg pe_int) (fun _ _ => rfl)) pa_nil)) pa_nil))))))), ?_⟩
  obtain ⟨o1, o2, o3, o4⟩ := ops_ok n.toNat (by omega)
  refine ⟨(by show 12 ≤ sizeLine; decide), fun p hp => ?_⟩
  refine ⟨_, rfl, (by show 5 ≤ sizeLine; decide), fun p2 hp2 => ?_⟩
  have n12 : p ≠ p2 := ne_of_none upd_same hp2
  refine ⟨p, p2, _, _, rfl, rfl, (by rw [upd_ne n12]; exact upd_same), upd_same, (by show 12 + 5 ≤ sizeLine; decide), fun p3 hp3 => ?_⟩
  have f3 : ∀ o, Fr [] H (upd _ p3 o) := fun o => Fr.trans (Fr.new hp) (Fr.trans (Fr.new hp2) (Fr.new hp3))
  have el : atI (opsL.map V.str) n = some (.str (opsL.getD n.toNat Str.empty)) := atI_strs h0 (by show n < (17 : Int); exact h1)
  refine ⟨_, rfl, _, rfl, p3, opsL.map V.str, n, _, rfl, rfl, SqL.of upd_same, el, 1, rfl, _, rfl, _, rfl, sl_le (by omega), ?_⟩
  refine ⟨_, rfl, _, rfl, p3, opsL.map V.str, n, _, rfl, rfl, SqL.of upd_same, el, 1, rfl, _, _, _, rfl, rfl, sl_le (by omega), o3, _, _, rfl, o4, (by show 1 ≤ 640; decide), sl2, fun t ht => ?_⟩
  refine k _ _ (Fr.trans (f3 _) (Fr.new ht)) (rep_new ht (.cons ?_ (.one .int)))
  rw [o1]
  exact .str
theorem sc_g_atom : FnScope ["_law_deck_here", "_law_scope"] ["_law_deck_here", "_law_scope"] (defScope s_g_atom) := C8.fnScope_by (by decide +kernel)
theorem ok_atom (T : TX K mg) : C8.Cal P w K mg base 5 "_law_atom" spAtom [] := by
  have c__law_next : C8.Cal P w K mg base 1 "_law_next" spNext [] := ok_next T
  have c__law_value : C8.Cal P w K mg base 4 "_law_value" (spValue 2) [] := ok_value T 2
  refine cal_of T.f_g_atom T.g__law_atom sc_g_atom (fun _ _ _ _ _ _ us hl => match us, hl with | [_, _], _ => rfl) (fun vs H Q E h => ?_) (fun cdv A outer s H vs Q E hr h => ?_)
  · obtain ⟨a, s, l, scope, rfl, _⟩ := h
    rfl
  obtain ⟨a, s, l, scope, rfl, ha, hs, hsa, k⟩ := h
  refine ⟨_, (pss_cons (ps_if (PW.pt (pw_and (pt_cmpR op_gt (C8.pe_c c__law_next hr (by omega) (by rfl) (pa_cons (pv 0) (pa_cons pe_int pa_nil))) pe_int (nomark _)) (pw_and1 (pt_cmpR op_gt (pe_callB call_len_seq (by rfl) T.z_len (by decide +kernel) (pa_cons (pv 1) pa_nil)) pe_int (nomark _))))) (pss_one (ps_ret (pe_tup (pa_cons pe_str (pa_cons (pe_ix (r := rIxL K) ix_list (pv 1) (C8.pe_c c__law_next hr (by omega) (by rfl) (pa_cons (pv 0) (pa_cons (pe_callB call_len_seq (by rfl) T.z_len (by decide +kernel) (pa_cons (pv 1) pa_nil)) pa_nil))) (fun _ _ => rfl)) pa_nil))))) pss_nil)
      (pss_one (ps_ret (pe_tup (pa_cons pe_str (pa_cons (C8.pe_c c__law_value hr (by omega) (by rfl) (pa_cons (pv 0) (pa_cons pe_int pa_nil))) pa_nil)))))), ?_⟩
  unfold gAtom at k
  have lo := gNext_lo l (show (0 : Int) < 3 by decide)
  refine ⟨_, rfl, a, l, 3, rfl, ha, by decide, fun H1 f1 h1 => ?_⟩
  have hs1 := f1.at hs (by simp; exact hsa)
  refine (fun (val : ¬ (0 < (gNext l 3).1 ∧ 0 < (scope.length : Int)) → _) => ⟨_, _, rfl, rfl, _, rfl, ifB (fun q1 => ⟨_, rfl, s, _, rfl, .inl (SqL.of hs1), _, _, rfl, rfl, _, rfl, ifB (fun q2 => ?one) fun q2 => val fun z => q2 (by rw [List.length_map]; exact z.2)⟩) fun q1 => val fun z => q1 z.1⟩) ?vl
  case one =>
    rw [List.length_map] at q2
    rw [if_pos ⟨q1, q2⟩] at k
    have el : (scope.map V.str).length = scope.length := List.length_map _
    refine ⟨_, rfl, _, rfl, _, rfl, s, _, rfl, .inl (SqL.of hs1), a, _, ((scope.map V.str).length : Int), rfl, h1, by rw [el]; exact q2, fun H2 f2 h2 => ?_⟩
    rw [el] at h2 ⊢
    have hs2 := f2.at hs1 (by simp; exact hsa)
    have lo2 := gNext_lo (gNext l 3).2 q2
    have hi2 := gNext_hi (gNext l 3).2 q2
    exact ⟨s, _, _, _, rfl, rfl, SqL.of hs2, atI_strs lo2 hi2, sl2, fun t ht => k _ _ (f1.trans (f2.trans (Fr.new ht))) (h2.new ht) (rep_new ht (.cons .str (.one .str)))⟩
  case vl =>
    intro nq
    rw [if_neg nq] at k
    refine ⟨_, rfl, a, _, rfl, by decide, h1, fun H2 v f2 h2 _ rv => ⟨sl2, fun t ht => k _ _ (f1.trans (f2.trans (Fr.new ht))) (h2.new ht) (rep_new ht (.cons .str (.one rv)))⟩⟩
theorem sc_g_atoms : FnScope ["_law_deck_here", "_law_scope", "_law_many", "_law_k"] ["_law_deck_here", "_law_scope", "_law_many"] (defScope s_g_atoms) := C8.fnScope_by (by decide +kernel)
theorem ok_atoms (T : TX K mg) : C8.Cal P w K mg base 6 "_law_atoms" spAtoms [] := by
  have c__law_atom : C8.Cal P w K mg base 5 "_law_atom" spAtom [] := ok_atom T
  refine cal_of T.f_g_atoms T.g__law_atoms sc_g_atoms (fun _ _ _ _ _ _ us hl => match us, hl with | [_, _, _], _ => rfl) (fun vs H Q E h => ?_) (fun cdv A outer s H vs Q E hr h => ?_)
  · obtain ⟨a, s, l, scope, m, rfl, _⟩ := h
    rfl
  obtain ⟨a, s, l, scope, m, rfl, hm, ha, hs, hsa, k⟩ := h
  refine ⟨_, (pss_one (ps_ret (pe_callTy call_tuple_of (by rfl) T.z_tuple (by decide +kernel) (pa_cons (pe_lc (own := [("_law_k", 3)]) (by rfl) sc_g_atoms.nd (pi_range1 (by rfl) T.z_range (pa_cons (pv 2) pa_nil)) (blkOk_by (own := [("_law_k", 3)]) (N := ["_law_deck_here", "_law_scope", "_law_many", "_law_k"]) (sc := defScope s_g_atoms) (by decide +kernel)) (fun _ _ _ _ _ => (pg_name (i := 3) sc_g_atoms.nd rfl (by first | exact Or.inl rfl | exact Or.inr rfl))) (fun _ _ _ _ _ => pts_nil) (fun _ _ _ _ _ => (C8.pe_c c__law_atom hr (by omega) (by rfl) (pa_cons (pv 0) (pa_cons (pv 1) pa_nil))))) pa_nil)))), ?_⟩
  refine ⟨_, rfl, (m : Int), rfl, by omega, by omega, fun D hD => ?_⟩
  have nD : a ≠ D := ne_of_none ha hD
  refine lc_range (lo := 0) (n := m) (fun i H1 => LI H1 a (gList (gAtom scope) i l).2 ∧ Fr [a] H H1 ∧ ∃ xs, H1 D = some (.lst xs) ∧ RepL H1 ((gList (gAtom scope) i l).1.map Atom.d) xs)
    ⟨ha.new hD, Fr.new hD, [], upd_same, RepL.nil⟩ (fun i H1 hi ⟨g1, g2, xs, g3, g4⟩ => ?_) (fun H1 ⟨g1, g2, xs, g3, g4⟩ => ?_)
  · have hs1 := g2.at hs (by simp; exact hsa)
    refine ⟨rfl, _, rfl, _, rfl, a, s, _, scope, rfl, g1, hs1, hsa, fun H2 v f2 h2 rv => ?_⟩
    have gD := f2.at g3 (by simp; exact nD.symm)
    refine ⟨xs, gD, ?_, LI.keep h2 nD, (g2.trans f2).put_new hD, _, upd_same, ?_⟩
    · rw [g4.length, List.length_map, gList_len]
      exact sl_lt (by omega)
    · have i1 : Imm H1 H2 := f2.imm1 g1
      have r2 := ((g4.mono i1).snoc rv).mono (imm_upd (o := .lst (xs ++ [v])) (soft_lst gD))
      rw [gList, List.map_append]
      exact r2
  · exact ⟨D, xs, rfl, .inl ⟨SqL.of g3, fun t ht => k _ _ (g2.trans (Fr.new ht)) (g1.new ht) (rep_new ht g4)⟩⟩
theorem sc_g_step : FnScope ["_law_deck_here", "_law_heads_here", "_law_scope", "_law_name_here", "_law_way", "_law_aim", "_law_many", "_law_word_here"] ["_law_deck_here", "_law_heads_here", "_law_scope", "_law_name_here"] (defScope s_g_step) := C8.fnScope_by (by decide +kernel)
theorem ok_step (T : TX K mg) : C8.Cal P w K mg base 7 "_law_step" spStep [] := by
  have c__law_next : C8.Cal P w K mg base 1 "_law_next" spNext [] := ok_next T
  have c__law_op : C8.Cal P w K mg base 1 "_law_op" spOp [] := ok_op T
  have c__law_atoms : C8.Cal P w K mg base 6 "_law_atoms" spAtoms [] := ok_atoms T
  refine cal_of T.f_g_step T.g__law_step sc_g_step (fun _ _ _ _ _ _ us hl => match us, hl with | [_, _, _, _], _ => rfl) (fun vs H Q E h => ?_) (fun cdv A outer s H vs Q E hr h => ?_)
  · obtain ⟨a, hs, s, l, heads, scope, name, rfl, _⟩ := h
    rfl
  obtain ⟨a, hs, s, l, heads, scope, name, rfl, ha, hh, hsc, hsa, hha, k⟩ := h
  refine ⟨_, (pss_cons (ps_set (i := 4) sc_g_step.nd rfl (by first | exact Or.inl rfl | exact Or.inr rfl) (C8.pe_c c__law_next hr (by omega) (by rfl) (pa_cons (pv 0) (pa_cons pe_int pa_nil))))
      (pss_cons (ps_if (pt_cmpR op_lt (pv 4) pe_int (nomark _)) (pss_cons (ps_asg (C8.pe_c c__law_op hr (by omega) (by rfl) (pa_cons (pv 4) pa_nil)) (pg_tup rfl (pgs_cons (pg_name (i := 7) sc_g_step.nd rfl (by first | exact Or.inl rfl | exact Or.inr rfl)) (pgs_cons (pg_name (i := 6) sc_g_step.nd rfl (by first | exact Or.inl rfl | exact Or.inr rfl)) pgs_nil))))
      (pss_one (ps_ret (pe_tup (pa_cons pe_str (pa_cons (pv 3) (pa_cons (pv 7) (pa_cons (C8.pe_c c__law_atoms hr (by omega) (by rfl) (pa_cons (pv 0) (pa_cons (pv 2) (pa_cons (pv 6) pa_nil)))) pa_nil)))))))) pss_nil)
      (pss_cons (ps_asg (pe_ix (r := rIxL K) ix_list (pv 1) (C8.pe_c c__law_next hr (by omega) (by rfl) (pa_cons (pv 0) (pa_cons (pe_callB call_len_seq (by rfl) T.z_len (by decide +kernel) (pa_cons (pv 1) pa_nil)) pa_nil))) (fun _ _ => rfl)) (pg_tup rfl (pgs_cons (pg_name (i := 5) sc_g_step.nd rfl (by first | exact Or.inl rfl | exact Or.inr rfl)) (pgs_cons (pg_name (i := 6) sc_g_step.nd rfl (by first | exact Or.inl rfl | exact Or.inr rfl)) pgs_nil))))
      (pss_one (ps_ret (pe_tup (pa_cons pe_str (pa_cons (pv 3) (pa_cons (pv 5) (pa_cons (C8.pe_c c__law_atoms hr (by omega) (by rfl) (pa_cons (pv 0) (pa_cons (pv 2) (pa_cons (pv 6) pa_nil)))) pa_nil)))))))))), ?_⟩
  unfold gStep at k
  have lo := gNext_lo l (show (0 : Int) < 22 by decide)
  refine ⟨_, rfl, a, l, 22, rfl, ha, by decide, fun H1 f1 h1 => ?_⟩
  have hs1 := f1.at hsc (by simp; exact hsa)
  refine ⟨_, rfl, _, _, rfl, rfl, _, rfl, ifB (fun q => ?_) fun q => ?_⟩
  · rw [if_pos q] at k
    refine ⟨_, rfl, _, rfl, lo, q, fun H2 v f2 rv => ?_⟩
    obtain ⟨t, ys, rfl, ht, hy⟩ := rv.t
    obtain ⟨y0, y1, rfl, r0, r1⟩ := hy.c2
    rw [rep_str] at r0
    rw [rep_int] at r1
    subst r0 r1
    have m6 : (opAt (gNext l 22).1).2 ≤ 6 := by
      have z : opAt (gNext l 22).1 ∈ opTab := by
        unfold opAt
        rw [List.getD_eq_getElem?_getD, List.getElem?_eq_getElem (show (gNext l 22).1.toNat < opTab.length by show _ < 17; omega)]
        exact List.getElem_mem _
      have := (op_len _ z).2
      omega
    refine ⟨t, _, rfl, sqT_of ht, rfl, _, _, rfl, _, _, rfl, rfl, ?_⟩
    refine ⟨_, rfl, _, rfl, _, rfl, _, rfl, _, rfl, a, s, _, scope, _, rfl, m6, f2.at h1, f2.at hs1, hsa, fun H3 u f3 h3 ru => ⟨sl4, fun p hp => ?_⟩⟩
    exact k _ _ (f1.trans ((Fr.mono f2 (by simp)).trans (f3.trans (Fr.new hp)))) (h3.new hp) (rep_new hp (.cons .str (.cons .str (.cons .str (.one ru)))))
  · rw [if_neg q] at k
    obtain ⟨xs, hx, rx, hne, h6⟩ := hh
    have hx1 := f1.at hx (by simp; exact hha)
    have el : xs.length = heads.length := by rw [rx.length, List.length_map]
    have hpos : (0 : Int) < (heads.length : Int) := by have := List.length_pos_iff.mpr hne; omega
    refine ⟨_, rfl, _, rfl, _, rfl, hs, _, rfl, .inl (SqL.of hx1), a, _, (xs.length : Int), rfl, h1, by rw [el]; exact hpos, fun H2 f2 h2 => ?_⟩
    rw [el] at h2 ⊢
    have lo2 := gNext_lo (gNext l 22).2 hpos
    have hi2 := gNext_hi (gNext l 22).2 hpos
    generalize hi : (gNext (gNext l 22).2 (heads.length : Int)).1 = i at *
    generalize hl2 : (gNext (gNext l 22).2 (heads.length : Int)).2 = l2 at *
    have hlt : i.toNat < heads.length := by omega
    have hget : heads[i.toNat]? = some (headAt heads i) := get?_getD _ hlt
    obtain ⟨x, hx2, rxi⟩ := rx.get (i := i.toNat) (d := headD (headAt heads i)) (by rw [List.getElem?_map, hget]; rfl)
    have i2 : Imm H H2 := (f1.trans f2).imm1 ha
    have hx3 := f2.at hx1 (by simp; exact hha)
    refine ⟨hs, xs, i, x, rfl, rfl, SqL.of hx3, atI_get? lo2 hx2, ?_⟩
    obtain ⟨t, ys, rfl, ht, hy⟩ := (rxi.mono i2).t
    obtain ⟨y0, y1, rfl, r0, r1⟩ := hy.c2
    rw [rep_str] at r0
    rw [rep_int] at r1
    subst r0 r1
    have m6 : (headAt heads i).2 ≤ 6 := h6 _ (List.mem_of_getElem? hget)
    have hs2 := f2.at hs1 (by simp; exact hsa)
    refine ⟨t, _, rfl, sqT_of ht, rfl, _, _, rfl, _, _, rfl, rfl, ?_⟩
    refine ⟨_, rfl, _, rfl, _, rfl, _, rfl, _, rfl, a, s, _, scope, _, rfl, m6, h2, hs2, hsa, fun H3 u f3 h3 ru => ⟨sl4, fun p hp => ?_⟩⟩
    exact k _ _ (f1.trans (f2.trans (f3.trans (Fr.new hp)))) (h3.new hp) (rep_new hp (.cons .str (.cons .str (.cons .str (.one ru)))))
end
end FK
/-! FKG7 -/
set_option maxHeartbeats 400000
namespace FK
open PySem PySem.Spec PyProof.Rows L2
open TL (tl)
/-! ### a block -/
structure GS where
  ss : List Step
  sc : List Str
  us : List Str
  l : List Int
def gSteps (heads : List (Str × Nat)) (cell : Int) : Nat → GS → GS
  | 0, t => t
  | n + 1, t =>
    ⟨(gSteps heads cell n t).ss ++ [(gStep heads (gSteps heads cell n t).sc (gName cell (gSteps heads cell n t).us.length) (gSteps heads cell n t).l).1],
     (gSteps heads cell n t).sc ++ [gName cell (gSteps heads cell n t).us.length], (gSteps heads cell n t).us ++ [gName cell (gSteps heads cell n t).us.length],
     (gStep heads (gSteps heads cell n t).sc (gName cell (gSteps heads cell n t).us.length) (gSteps heads cell n t).l).2⟩
theorem gSteps_len {heads : List (Str × Nat)} {cell : Int} {t : GS} : ∀ n, (gSteps heads cell n t).ss.length = t.ss.length + n ∧ (gSteps heads cell n t).sc.length = t.sc.length + n ∧ (gSteps heads cell n t).us.length = t.us.length + n
  | 0 => ⟨rfl, rfl, rfl⟩
  | n + 1 => by
    obtain ⟨a, b, c⟩ := gSteps_len (heads := heads) (cell := cell) (t := t) n
    rw [gSteps, List.length_append, List.length_append, List.length_append, a, b, c]
    exact ⟨rfl, rfl, rfl⟩
def gLeaf (heads : List (Str × Nat)) (scope : List Str) (way : Int) (l : List Int) : Leaf × List Int :=
  if way = 1 then (.fail (gWord l).1, (gWord l).2)
  else if way = 2 then (.go (headAt heads (gNext l (heads.length : Int)).1).1 (gList (gAtom scope) (headAt heads (gNext l (heads.length : Int)).1).2 (gNext l (heads.length : Int)).2).1, (gList (gAtom scope) (headAt heads (gNext l (heads.length : Int)).1).2 (gNext l (heads.length : Int)).2).2)
  else (.give (gAtom scope l).1, (gAtom scope l).2)
def gTop (heads : List (Str × Nat)) (cell : Int) (scope used : List Str) (l : List Int) : GS := gSteps heads cell (gNext l 4).1.toNat ⟨[], scope, used, (gNext l 4).2⟩
def gBlock (heads : List (Str × Nat)) (cell : Int) : Nat → List Str → List Str → List Int → Block × List Str × List Int
  | 0, scope, used, l =>
    let t := gTop heads cell scope used l
    (.leaf t.ss (gLeaf heads t.sc (gNext t.l 6).1 (gNext t.l 6).2).1, t.us, (gLeaf heads t.sc (gNext t.l 6).1 (gNext t.l 6).2).2)
  | n + 1, scope, used, l =>
    let t := gTop heads cell scope used l
    if 3 < (gNext t.l 6).1 then
      let a := gAtom t.sc (gNext t.l 6).2
      let b := gBlock heads cell n t.sc t.us a.2
      let c := gBlock heads cell n t.sc b.2.1 b.2.2
      (.iff t.ss a.1 b.1 c.1, c.2.1, c.2.2)
    else (.leaf t.ss (gLeaf heads t.sc (gNext t.l 6).1 (gNext t.l 6).2).1, t.us, (gLeaf heads t.sc (gNext t.l 6).1 (gNext t.l 6).2).2)
def nB : Nat → Nat
  | 0 => 1
  | n + 1 => 1 + 2 * nB n
theorem gTop_len (heads : List (Str × Nat)) (cell : Int) (scope used : List Str) (l : List Int) : (gTop heads cell scope used l).ss.length ≤ 3 ∧ (gTop heads cell scope used l).sc.length ≤ scope.length + 3 ∧ (gTop heads cell scope used l).us.length ≤ used.length + 3 ∧ (scope.length ≤ used.length → (gTop heads cell scope used l).sc.length ≤ (gTop heads cell scope used l).us.length) := by
  obtain ⟨a, b, c⟩ := gSteps_len (heads := heads) (cell := cell) (t := ⟨[], scope, used, (gNext l 4).2⟩) (gNext l 4).1.toNat
  have := gNext_hi l (show (0 : Int) < 4 by decide)
  have := gNext_lo l (show (0 : Int) < 4 by decide)
  unfold gTop
  rw [a, b, c]
  refine ⟨?_, ?_, ?_, fun z => ?_⟩
  · show 0 + _ ≤ _
    omega
  · show scope.length + _ ≤ _
    omega
  · show used.length + _ ≤ _
    omega
  · show scope.length + _ ≤ used.length + _
    omega
theorem gBlock_us (heads : List (Str × Nat)) (cell : Int) : ∀ (n : Nat) (scope used : List Str) (l : List Int), (gBlock heads cell n scope used l).2.1.length ≤ used.length + 3 * nB n
  | 0, scope, used, l => by
    have := (gTop_len heads cell scope used l).2.2.1
    show (gTop heads cell scope used l).us.length ≤ _
    unfold nB
    omega
  | n + 1, scope, used, l => by
    have h := (gTop_len heads cell scope used l).2.2.1
    rw [gBlock]
    unfold nB
    simp only []
    split
    · have a := gBlock_us heads cell n (gTop heads cell scope used l).sc (gTop heads cell scope used l).us (gAtom (gTop heads cell scope used l).sc (gNext (gTop heads cell scope used l).l 6).2).2
      have b := gBlock_us heads cell n (gTop heads cell scope used l).sc (gBlock heads cell n (gTop heads cell scope used l).sc (gTop heads cell scope used l).us (gAtom (gTop heads cell scope used l).sc (gNext (gTop heads cell scope used l).l 6).2).2).2.1 (gBlock heads cell n (gTop heads cell scope used l).sc (gTop heads cell scope used l).us (gAtom (gTop heads cell scope used l).sc (gNext (gTop heads cell scope used l).l 6).2).2).2.2
      refine Nat.le_trans b ?_
      omega
    · show (gTop heads cell scope used l).us.length ≤ _
      omega
theorem Fr.imm2 {H H' : Hp} {p q : Addr} {xs ys : List V} (a : Fr [p, q] H H') (h : H p = some (.lst xs)) (g : H q = some (.lst ys)) : Imm H H' := a.imm fun b m => by
  rcases List.mem_cons.mp m with e | m
  · rw [e]; exact soft_lst h
  · rw [List.mem_singleton.mp m]; exact soft_lst g
theorem gBlock_us_ge (heads : List (Str × Nat)) (cell : Int) : ∀ (n : Nat) (scope used : List Str) (l : List Int), used.length ≤ (gBlock heads cell n scope used l).2.1.length := by
  have g : ∀ (scope used : List Str) (l : List Int), used.length ≤ (gTop heads cell scope used l).us.length := fun scope used l => by
    obtain ⟨a, b, c⟩ := gSteps_len (heads := heads) (cell := cell) (t := ⟨[], scope, used, (gNext l 4).2⟩) (gNext l 4).1.toNat
    unfold gTop
    rw [c]
    show used.length ≤ used.length + _
    omega
  intro n
  induction n with
  | zero => exact g
  | succ n ih =>
    intro scope used l
    rw [gBlock]
    simp only []
    split
    · exact Nat.le_trans (g scope used l) (Nat.le_trans (ih _ _ _) (ih _ _ _))
    · exact g scope used l
def spBlock (d : Nat) : Sp := fun vs H Q _ => ∃ (a hs sa u : Addr) (l : List Int) (heads : List (Str × Nat)) (scope used : List Str) (cell : Int), vs = [.ref a, .ref hs, .ref sa, .ref u, .int cell, .int (3 - (d : Int))] ∧ d ≤ 3 ∧ LI H a l ∧ HeadsAt H hs heads ∧
  (H sa = some (.lst (scope.map V.str)) ∨ H sa = some (.tup (scope.map V.str))) ∧ H u = some (.lst (used.map V.str)) ∧ u ≠ a ∧ hs ≠ a ∧ hs ≠ u ∧ used.length + 3 * nB d ≤ 900 ∧ scope.length ≤ used.length ∧
  ∀ H' v, Fr [a, u] H H' → LI H' a (gBlock heads cell d scope used l).2.2 → H' u = some (.lst ((gBlock heads cell d scope used l).2.1.map V.str)) → Rep H' (gBlock heads cell d scope used l).1.d v → Q v H'
def spB : Nat → Sp
  | 0 => fun _ _ _ _ => False
  | n + 1 => spBlock n
theorem nB_pos : ∀ d, 1 ≤ nB d
  | 0 => Nat.le_refl _
  | n + 1 => by unfold nB; omega
section
variable {P : Program} {w : World} {K : PySem.W.Frag} {mg : Str → Option Value} {base : Heap}
theorem sc_g_block : FnScope ["_law_deck_here", "_law_heads_here", "_law_scope", "_law_used", "_law_cell", "_law_deep", "_law_steps", "_law_turn", "_law_way", "_law_name_here", "_law_atom_here", "_law_first", "_law_second", "_law_aim", "_law_many"] ["_law_deck_here", "_law_heads_here", "_law_scope", "_law_used", "_law_cell", "_law_deep"] (defScope s_g_block) := C8.fnScope_by (by decide +kernel)
theorem ok_block_step (T : TX K mg) {d : Nat} (c__law_block : C8.Cal P w K mg base (7 + d) "_law_block" (spB d) []) : C8.Cal P w K mg base (8 + d) "_law_block" (spB (d + 1)) [] := by
  have c__law_next : C8.Cal P w K mg base 1 "_law_next" spNext [] := ok_next T
  have c__law_name : C8.Cal P w K mg base 2 "_law_name" (spName gName) [] := ok_name T
  have c__law_step : C8.Cal P w K mg base 7 "_law_step" spStep [] := ok_step T
  have c__law_atom : C8.Cal P w K mg base 5 "_law_atom" spAtom [] := ok_atom T
  have c__law_atoms : C8.Cal P w K mg base 6 "_law_atoms" spAtoms [] := ok_atoms T
  have c__law_word : C8.Cal P w K mg base 2 "_law_word" spWord [] := ok_word T
  have e8 : 8 + d = (7 + d) + 1 := by omega
  rw [e8]
  refine cal_of T.f_g_block T.g__law_block sc_g_block (fun _ _ _ _ _ _ us hl => match us, hl with | [_, _, _, _, _, _], _ => rfl) (fun vs H Q E h => ?_) (fun cdv A outer s H vs Q E hr h => ?_)
  · obtain ⟨a, hs, sa, u, l, heads, scope, used, cell, rfl, _⟩ := h
    rfl
  obtain ⟨a, hs, sa, u, l, heads, scope, used, cell, rfl, hd3, ha, hh, hsa, hu, nua, nha, nhu, hb, hsu, k⟩ := h
  refine ⟨_, (pss_cons (ps_set (i := 2) sc_g_block.nd rfl (by first | exact Or.inl rfl | exact Or.inr rfl) (pe_callTy call_list_of (by rfl) T.z_list (by decide +kernel) (pa_cons (pv 2) pa_nil)))
      (pss_cons (ps_set (i := 6) sc_g_block.nd rfl (by first | exact Or.inl rfl | exact Or.inr rfl) (pe_lst pa_nil))
      (pss_cons (ps_for PassesOwn.never rfl (pi_range1 (by rfl) T.z_range (pa_cons (C8.pe_c c__law_next hr (by omega) (by rfl) (pa_cons (pv 0) (pa_cons pe_int pa_nil))) pa_nil)) (pg_name (i := 7) sc_g_block.nd rfl (by first | exact Or.inl rfl | exact Or.inr rfl))
        (pss_cons (ps_set (i := 9) sc_g_block.nd rfl (by first | exact Or.inl rfl | exact Or.inr rfl) (C8.pe_c c__law_name hr (by omega) (by rfl) (pa_cons (pv 4) (pa_cons (pe_callB call_len_seq (by rfl) T.z_len (by decide +kernel) (pa_cons (pv 3) pa_nil)) pa_nil))))
      (pss_cons (ps_expr (pe_bm PySem.F.plainAttrs_list PySem.F.slot_list_append PySem.F.type_list_append mt_append (pv 6) (pa_cons (C8.pe_c c__law_step hr (by omega) (by rfl) (pa_cons (pv 0) (pa_cons (pv 1) (pa_cons (pv 2) (pa_cons (pv 9) pa_nil))))) pa_nil)))
      (pss_cons (ps_expr (pe_bm PySem.F.plainAttrs_list PySem.F.slot_list_append PySem.F.type_list_append mt_append (pv 3) (pa_cons (pv 9) pa_nil)))
      (pss_one (ps_expr (pe_bm PySem.F.plainAttrs_list PySem.F.slot_list_append PySem.F.type_list_append mt_append (pv 2) (pa_cons (pv 9) pa_nil))))))))
      (pss_cons (ps_set (i := 8) sc_g_block.nd rfl (by first | exact Or.inl rfl | exact Or.inr rfl) (C8.pe_c c__law_next hr (by omega) (by rfl) (pa_cons (pv 0) (pa_cons pe_int pa_nil))))
      (pss_cons (ps_if (PW.pt (pw_and (pt_cmpR op_gt (pv 8) pe_int (nomark _)) (pw_and1 (pt_cmpR op_lt (pv 5) pe_int (nomark _))))) (pss_cons (ps_set (i := 10) sc_g_block.nd rfl (by first | exact Or.inl rfl | exact Or.inr rfl) (C8.pe_c c__law_atom hr (by omega) (by rfl) (pa_cons (pv 0) (pa_cons (pv 2) pa_nil))))
      (pss_cons (ps_set (i := 11) sc_g_block.nd rfl (by first | exact Or.inl rfl | exact Or.inr rfl) (C8.pe_c c__law_block hr (by omega) (by rfl) (pa_cons (pv 0) (pa_cons (pv 1) (pa_cons (pv 2) (pa_cons (pv 3) (pa_cons (pv 4) (pa_cons (pe_op op_add (pv 5) pe_int) pa_nil))))))))
      (pss_cons (ps_set (i := 12) sc_g_block.nd rfl (by first | exact Or.inl rfl | exact Or.inr rfl) (C8.pe_c c__law_block hr (by omega) (by rfl) (pa_cons (pv 0) (pa_cons (pv 1) (pa_cons (pv 2) (pa_cons (pv 3) (pa_cons (pv 4) (pa_cons (pe_op op_add (pv 5) pe_int) pa_nil))))))))
      (pss_one (ps_ret (pe_tup (pa_cons (pe_callTy call_tuple_of (by rfl) T.z_tuple (by decide +kernel) (pa_cons (pv 6) pa_nil)) (pa_cons (pe_tup (pa_cons pe_str (pa_cons (pv 10) (pa_cons (pv 11) (pa_cons (pv 12) pa_nil))))) pa_nil)))))))) pss_nil)
      (pss_cons (ps_if (pt_cmpR op_eq (pv 8) pe_int (nomark _)) (pss_one (ps_ret (pe_tup (pa_cons (pe_callTy call_tuple_of (by rfl) T.z_tuple (by decide +kernel) (pa_cons (pv 6) pa_nil)) (pa_cons (pe_tup (pa_cons pe_str (pa_cons (C8.pe_c c__law_word hr (by omega) (by rfl) (pa_cons (pv 0) pa_nil)) pa_nil))) pa_nil))))) pss_nil)
      (pss_cons (ps_if (pt_cmpR op_eq (pv 8) pe_int (nomark _)) (pss_cons (ps_asg (pe_ix (r := rIxL K) ix_list (pv 1) (C8.pe_c c__law_next hr (by omega) (by rfl) (pa_cons (pv 0) (pa_cons (pe_callB call_len_seq (by rfl) T.z_len (by decide +kernel) (pa_cons (pv 1) pa_nil)) pa_nil))) (fun _ _ => rfl)) (pg_tup rfl (pgs_cons (pg_name (i := 13) sc_g_block.nd rfl (by first | exact Or.inl rfl | exact Or.inr rfl)) (pgs_cons (pg_name (i := 14) sc_g_block.nd rfl (by first | exact Or.inl rfl | exact Or.inr rfl)) pgs_nil))))
      (pss_one (ps_ret (pe_tup (pa_cons (pe_callTy call_tuple_of (by rfl) T.z_tuple (by decide +kernel) (pa_cons (pv 6) pa_nil)) (pa_cons (pe_tup (pa_cons pe_str (pa_cons (pv 13) (pa_cons (C8.pe_c c__law_atoms hr (by omega) (by rfl) (pa_cons (pv 0) (pa_cons (pv 2) (pa_cons (pv 14) pa_nil)))) pa_nil)))) pa_nil)))))) pss_nil)
      (pss_one (ps_ret (pe_tup (pa_cons (pe_callTy call_tuple_of (by rfl) T.z_tuple (by decide +kernel) (pa_cons (pv 6) pa_nil)) (pa_cons (pe_tup (pa_cons pe_str (pa_cons (C8.pe_c c__law_atom hr (by omega) (by rfl) (pa_cons (pv 0) (pa_cons (pv 2) pa_nil))) pa_nil))) pa_nil)))))))))))), ?_⟩
  have tl3 := gTop_len heads cell scope used l
  have gt : gTop heads cell scope used l = gSteps heads cell (gNext l 4).1.toNat ⟨[], scope, used, (gNext l 4).2⟩ := rfl
  have nb1 := nB_pos d
  refine ⟨_, rfl, sa, _, rfl, hsa.imp SqL.of sqT_of, fun sc hsc => ⟨sl0, fun pp hpp => ?_⟩⟩
  have f0 : Fr [a, u] H (upd H sc (.lst (scope.map V.str))) := Fr.new hsc
  have f00 : Fr [a, u] H (upd (upd H sc (.lst (scope.map V.str))) pp (.lst [])) := f0.trans (Fr.new hpp)
  have hpp' : H pp = none := by
    rw [← hpp]; rw [upd_ne (fun z => by rw [z, upd_same] at hpp; cases hpp)]
  have nsp : pp ≠ sc := fun z => by rw [z, upd_same] at hpp; cases hpp
  have nsc_a : sc ≠ a := fun z => by rw [z, ha] at hsc; cases hsc
  have nsc_u : sc ≠ u := fun z => by rw [z, hu] at hsc; cases hsc
  have npp_a : pp ≠ a := fun z => by rw [z, ha] at hpp'; cases hpp'
  have npp_u : pp ≠ u := fun z => by rw [z, hu] at hpp'; cases hpp'
  have lo4 := gNext_lo l (show (0 : Int) < 4 by decide)
  have hi4 := gNext_hi l (show (0 : Int) < 4 by decide)
  have hsc0 : (upd (upd H sc (.lst (scope.map V.str))) pp (.lst [])) sc = some (.lst (scope.map V.str)) := by rw [upd_ne nsp.symm]; exact upd_same
  have hu0 : (upd (upd H sc (.lst (scope.map V.str))) pp (.lst [])) u = some (.lst (used.map V.str)) := by rw [upd_ne npp_u.symm, upd_ne nsc_u.symm]; exact hu
  have ha0 : LI (upd (upd H sc (.lst (scope.map V.str))) pp (.lst [])) a l := by show upd _ _ _ a = _; rw [upd_ne npp_a.symm, upd_ne nsc_a.symm]; exact ha
  have hp0 : (upd (upd H sc (.lst (scope.map V.str))) pp (.lst [])) pp = some (.lst []) := upd_same
  generalize upd (upd H sc (.lst (scope.map V.str))) pp (.lst []) = H0 at *
  have nh : hs ∉ [a, u] := by simp; exact ⟨nha, nhu⟩
  refine ⟨_, rfl, a, l, 4, rfl, ha0, by decide, fun H1 f1 h1 => ?_⟩
  have f01 : Fr [a, u] H H1 := f00.trans (f1.mono (by simp))
  generalize hn : (gNext l 4).1 = n at *
  generalize hl1 : (gNext l 4).2 = l1 at *
  refine ⟨n, rfl, by omega, by omega, ?_⟩
  refine for_range (lo := 0) (n := n.toNat) (fun i σ H1 => ∃ vk vn xs, σ = [some (V.ref a), some (V.ref hs), some (V.ref sc), some (V.ref u), some (V.int cell), some (V.int (3 - (d : Int))), some (V.ref pp), vk, none, vn, none, none, none, none, none] ∧
    LI H1 a (gSteps heads cell i ⟨[], scope, used, l1⟩).l ∧ H1 u = some (.lst ((gSteps heads cell i ⟨[], scope, used, l1⟩).us.map V.str)) ∧ H1 sc = some (.lst ((gSteps heads cell i ⟨[], scope, used, l1⟩).sc.map V.str)) ∧ H1 pp = some (.lst xs) ∧ RepL H1 ((gSteps heads cell i ⟨[], scope, used, l1⟩).ss.map Step.d) xs ∧ Fr [a, u] H H1)
    ⟨none, none, [], rfl, h1, f1.at hu0 (by simp; exact nua), f1.at hsc0 (by simp; exact nsc_a), f1.at hp0 (by simp; exact npp_a), RepL.nil, f01⟩ ?_ ?_
  · rintro i σ H2 hi2 ⟨vk, vn, xs, rfl, g1, g2, g3, g4, g5, g6⟩
    obtain ⟨b1, b2, b3⟩ := gSteps_len (heads := heads) (cell := cell) (t := ⟨[], scope, used, l1⟩) i
    have b1' : (gSteps heads cell i ⟨[], scope, used, l1⟩).ss.length = 0 + i := b1
    have b2' : (gSteps heads cell i ⟨[], scope, used, l1⟩).sc.length = scope.length + i := b2
    have b3' : (gSteps heads cell i ⟨[], scope, used, l1⟩).us.length = used.length + i := b3
    clear b1 b2 b3
    have xl : xs.length = i := by rw [g5.length, List.length_map, b1']; omega
    have eg : gSteps heads cell (i + 1) ⟨[], scope, used, l1⟩ = ⟨(gSteps heads cell i ⟨[], scope, used, l1⟩).ss ++ [(gStep heads (gSteps heads cell i ⟨[], scope, used, l1⟩).sc (gName cell (gSteps heads cell i ⟨[], scope, used, l1⟩).us.length) (gSteps heads cell i ⟨[], scope, used, l1⟩).l).1],
     (gSteps heads cell i ⟨[], scope, used, l1⟩).sc ++ [gName cell (gSteps heads cell i ⟨[], scope, used, l1⟩).us.length], (gSteps heads cell i ⟨[], scope, used, l1⟩).us ++ [gName cell (gSteps heads cell i ⟨[], scope, used, l1⟩).us.length],
     (gStep heads (gSteps heads cell i ⟨[], scope, used, l1⟩).sc (gName cell (gSteps heads cell i ⟨[], scope, used, l1⟩).us.length) (gSteps heads cell i ⟨[], scope, used, l1⟩).l).2⟩ := rfl
    rw [eg]
    clear eg
    generalize gSteps heads cell i ⟨[], scope, used, l1⟩ = t at *
    refine ⟨_, rfl, _, rfl, u, _, rfl, .inl (SqL.of g2), cell, t.us.length, by rw [List.length_map]; rfl, by omega, fun H3 f3 => ?_⟩
    have hh2 : HeadsAt H3 hs heads := (hh.keep g6 (g6.imm2 ha hu) nh).keep f3 f3.imm0 (by simp)
    refine ⟨_, rfl, .inl ⟨rfl, _, SqL.of (f3.at g4)⟩, _, rfl, _, rfl, _, rfl, _, rfl, a, hs, sc, t.l, heads, t.sc, _, rfl, f3.at g1, hh2, f3.at g3, nsc_a, nha, fun H4 v f4 h4 rv => ?_⟩
    have g4' := f4.at (f3.at g4) (by simp; exact npp_a)
    have g2' := f4.at (f3.at g2) (by simp; exact nua)
    have g3' := f4.at (f3.at g3) (by simp; exact nsc_a)
    have i4 : Imm H2 H4 := (f3.imm0).trans (f4.imm1 (f3.at g1))
    refine ⟨pp, _, _, rfl, rfl, g4', by rw [xl]; exact sl_lt (by omega), ?_⟩
    refine ⟨_, rfl, .inl ⟨rfl, _, SqL.of (by rw [upd_ne npp_u.symm]; exact g2')⟩, _, rfl, u, _, _, rfl, rfl, by rw [upd_ne npp_u.symm]; exact g2', by rw [List.length_map]; exact sl_lt (by omega), ?_⟩
    refine ⟨_, rfl, .inl ⟨rfl, _, SqL.of (by rw [upd_ne nsc_u, upd_ne nsp.symm]; exact g3')⟩, _, rfl, sc, _, _, rfl, rfl, by rw [upd_ne nsc_u, upd_ne nsp.symm]; exact g3', by rw [List.length_map]; exact sl_lt (by omega), ?_⟩
    have f24 : Fr [a, u] H H4 := g6.trans ((Fr.mono f3 (by simp)).trans (f4.mono (by simp)))
    refine ⟨_, _, xs ++ [v], rfl, ?_, ?_, ?_, ?_, ?_, ?_⟩
    · show upd _ _ _ a = _
      rw [upd_ne nsc_a.symm, upd_ne nua.symm, upd_ne npp_a.symm]
      exact h4
    · rw [upd_ne nsc_u.symm, upd_same, List.map_append]
      rfl
    · rw [upd_same, List.map_append]
      rfl
    · rw [upd_ne nsp, upd_ne npp_u]
      exact upd_same
    · have m1 : Imm H4 (upd H4 pp (.lst (xs ++ [v]))) := imm_upd (soft_lst g4')
      have m2 : Imm (upd H4 pp (.lst (xs ++ [v]))) (upd (upd H4 pp (.lst (xs ++ [v]))) u (.lst (List.map V.str t.us ++ [V.str (gName cell t.us.length)]))) := imm_upd (soft_lst (by rw [upd_ne npp_u.symm]; exact g2'))
      have m3 := m1.trans (m2.trans (imm_upd (p := sc) (o := .lst (List.map V.str t.sc ++ [V.str (gName cell t.us.length)])) (soft_lst (by rw [upd_ne nsc_u, upd_ne nsp.symm]; exact g3'))))
      rw [List.map_append]
      exact ((g5.mono i4).snoc rv).mono m3
    · exact Fr.put_new ((f24.put_new hpp').trans (Fr.put (by simp))) hsc
  rintro σ H2 ⟨vk, vn, xs, rfl, g1, g2, g3, g4, g5, g6⟩
  rw [← gt] at g1 g2 g3 g5
  have xl : xs.length ≤ 3 := by rw [g5.length, List.length_map]; exact tl3.1
  have hh2 : HeadsAt H2 hs heads := hh.keep g6 (g6.imm2 ha hu) nh
  have k1 : d = 0 ∨ ¬ 3 < (gNext (gTop heads cell scope used l).l 6).1 → ∀ H' v, Fr [a, u] H H' → LI H' a (gLeaf heads (gTop heads cell scope used l).sc (gNext (gTop heads cell scope used l).l 6).1 (gNext (gTop heads cell scope used l).l 6).2).2 → H' u = some (.lst ((gTop heads cell scope used l).us.map V.str)) → Rep H' (Block.leaf (gTop heads cell scope used l).ss (gLeaf heads (gTop heads cell scope used l).sc (gNext (gTop heads cell scope used l).l 6).1 (gNext (gTop heads cell scope used l).l 6).2).1).d v → Q v H' := fun c H' v q1 q2 q3 q4 => by
    have e : gBlock heads cell d scope used l = (Block.leaf (gTop heads cell scope used l).ss (gLeaf heads (gTop heads cell scope used l).sc (gNext (gTop heads cell scope used l).l 6).1 (gNext (gTop heads cell scope used l).l 6).2).1, (gTop heads cell scope used l).us, (gLeaf heads (gTop heads cell scope used l).sc (gNext (gTop heads cell scope used l).l 6).1 (gNext (gTop heads cell scope used l).l 6).2).2) := by
      cases d with
      | zero => rfl
      | succ n =>
        rw [gBlock]
        simp only []
        rw [if_neg (c.resolve_left (by simp))]
    rw [e] at k
    exact k H' v q1 q2 q3 q4
  have k4 : ∀ m, d = m + 1 → 3 < (gNext (gTop heads cell scope used l).l 6).1 → ∀ H' v,
      Fr [a, u] H H' → LI H' a (gBlock heads cell m (gTop heads cell scope used l).sc (gBlock heads cell m (gTop heads cell scope used l).sc (gTop heads cell scope used l).us (gAtom (gTop heads cell scope used l).sc (gNext (gTop heads cell scope used l).l 6).2).2).2.1 (gBlock heads cell m (gTop heads cell scope used l).sc (gTop heads cell scope used l).us (gAtom (gTop heads cell scope used l).sc (gNext (gTop heads cell scope used l).l 6).2).2).2.2).2.2 →
      H' u = some (.lst ((gBlock heads cell m (gTop heads cell scope used l).sc (gBlock heads cell m (gTop heads cell scope used l).sc (gTop heads cell scope used l).us (gAtom (gTop heads cell scope used l).sc (gNext (gTop heads cell scope used l).l 6).2).2).2.1 (gBlock heads cell m (gTop heads cell scope used l).sc (gTop heads cell scope used l).us (gAtom (gTop heads cell scope used l).sc (gNext (gTop heads cell scope used l).l 6).2).2).2.2).2.1.map V.str)) →
      Rep H' (Block.iff (gTop heads cell scope used l).ss (gAtom (gTop heads cell scope used l).sc (gNext (gTop heads cell scope used l).l 6).2).1 (gBlock heads cell m (gTop heads cell scope used l).sc (gTop heads cell scope used l).us (gAtom (gTop heads cell scope used l).sc (gNext (gTop heads cell scope used l).l 6).2).2).1
        (gBlock heads cell m (gTop heads cell scope used l).sc (gBlock heads cell m (gTop heads cell scope used l).sc (gTop heads cell scope used l).us (gAtom (gTop heads cell scope used l).sc (gNext (gTop heads cell scope used l).l 6).2).2).2.1 (gBlock heads cell m (gTop heads cell scope used l).sc (gTop heads cell scope used l).us (gAtom (gTop heads cell scope used l).sc (gNext (gTop heads cell scope used l).l 6).2).2).2.2).1).d v → Q v H' := fun m em c H' v q1 q2 q3 q4 => by
    subst em
    have e : ∀ x, gBlock heads cell (m + 1) scope used l = x → (if 3 < (gNext (gTop heads cell scope used l).l 6).1 then _ else _) = x := fun x hx => by rw [gBlock] at hx; exact hx
    have e2 := e _ rfl
    rw [if_pos c] at e2
    rw [← e2] at k
    exact k H' v q1 q2 q3 q4
  generalize htt : gTop heads cell scope used l = t at *
  clear gt
  refine ⟨_, rfl, a, t.l, 6, rfl, g1, by decide, fun H3 f3 h3 => ?_⟩
  have g4' := f3.at g4 (by simp; exact npp_a)
  have g2' := f3.at g2 (by simp; exact nua)
  have g3' := f3.at g3 (by simp; exact nsc_a)
  have g5' := g5.mono (f3.imm1 g1)
  have f33 : Fr [a, u] H H3 := g6.trans (f3.mono (by simp))
  have hh3 : HeadsAt H3 hs heads := hh2.keep f3 (f3.imm1 g1) (by simp; exact nha)
  have out : ∀ (lf : Leaf × List Int) (H4 : Hp) (t1 : Addr) (v : V), (∀ H' v, Fr [a, u] H H' → LI H' a lf.2 → H' u = some (.lst (t.us.map V.str)) → Rep H' (Block.leaf t.ss lf.1).d v → Q v H') →
      H3 t1 = none → Fr [a] (upd H3 t1 (.tup xs)) H4 → LI H4 a lf.2 → Rep H4 lf.1.d v → 2 ≤ sizeLine ∧ ∀ q, H4 q = none → Q (.ref q) (upd H4 q (.tup [.ref t1, v])) := fun lf H4 t1 v kk n1 f4 h4 rv => by
    refine ⟨sl2, fun q hq => kk _ _ ?_ (h4.new hq) ?_ ?_⟩
    · exact f33.trans ((Fr.new n1).trans ((f4.mono (by simp)).trans (Fr.new hq)))
    · rw [upd_ne (ne_of_none (f4.at (S := [a]) (p := u) (by rw [upd_ne (ne_of_none g2' n1)]; exact g2') (by simp; exact nua)) hq)]
      exact f4.at (by rw [upd_ne (ne_of_none g2' n1)]; exact g2') (by simp; exact nua)
    · have i1 : Imm (upd H3 t1 (.tup xs)) H4 := f4.imm1 (h3.new n1)
      have r1 : Rep H4 (stepsD t.ss) (.ref t1) := (rep_new n1 g5').mono i1
      exact rep_new hq (.cons r1 (.one rv))
  refine (fun (leaf : d = 0 ∨ ¬ 3 < (gNext t.l 6).1 → _) => ⟨_, rfl, _, _, rfl, rfl, _, rfl, ifB (fun q1 => ⟨_, rfl, _, _, rfl, rfl, _, rfl, ifB (fun q2 => ?iff) fun q2 => leaf (.inl (by omega))⟩) fun q1 => leaf (.inr q1)⟩) ?lf
  case lf =>
    intro hc
    have k2 := k1 hc
    unfold gLeaf at k2
    refine ⟨_, rfl, rfl, _, rfl, ifI (fun c1 => ?_) fun c1 => ?_⟩
    · rw [if_pos c1] at k2
      exact ⟨_, rfl, pp, _, rfl, .inl ⟨SqL.of g4', fun t1 ht1 => ⟨_, rfl, a, _, rfl, h3.new ht1, fun H4 f4 h4 => ⟨sl2, fun p2 hp2 => out _ _ t1 _ k2 ht1 (f4.trans (Fr.new hp2)) (h4.new hp2) (rep_new hp2 (.cons .str (.one .str)))⟩⟩⟩⟩
    rw [if_neg c1] at k2
    refine ⟨_, rfl, rfl, _, rfl, ifI (fun c2 => ?_) fun c2 => ?_⟩
    · rw [if_pos c2] at k2
      obtain ⟨ys, hy, ry, hne, h6⟩ := hh3
      have el : ys.length = heads.length := by rw [ry.length, List.length_map]
      have hpos : (0 : Int) < (heads.length : Int) := by have := List.length_pos_iff.mpr hne; omega
      refine ⟨_, rfl, _, rfl, _, rfl, hs, _, rfl, .inl (SqL.of hy), a, _, (ys.length : Int), rfl, h3, by rw [el]; exact hpos, fun H4 f4 h4 => ?_⟩
      rw [el] at h4 ⊢
      have lo2 := gNext_lo (gNext t.l 6).2 hpos
      have hi2 := gNext_hi (gNext t.l 6).2 hpos
      generalize hi : (gNext (gNext t.l 6).2 (heads.length : Int)).1 = i at *
      generalize hl2 : (gNext (gNext t.l 6).2 (heads.length : Int)).2 = l2 at *
      have hlt : i.toNat < heads.length := by omega
      have hget : heads[i.toNat]? = some (headAt heads i) := get?_getD _ hlt
      obtain ⟨x, hx2, rxi⟩ := ry.get (i := i.toNat) (d := headD (headAt heads i)) (by rw [List.getElem?_map, hget]; rfl)
      have hy4 := f4.at hy (by simp; exact nha)
      refine ⟨hs, ys, i, x, rfl, rfl, SqL.of hy4, atI_get? lo2 hx2, ?_⟩
      obtain ⟨tt, zs, rfl, htt2, hz⟩ := (rxi.mono (f4.imm1 h3)).t
      obtain ⟨y0, y1, rfl, r0, r1⟩ := hz.c2
      rw [rep_str] at r0
      rw [rep_int] at r1
      subst r0 r1
      have m6 : (headAt heads i).2 ≤ 6 := h6 _ (List.mem_of_getElem? hget)
      refine ⟨tt, _, rfl, sqT_of htt2, rfl, _, _, rfl, _, _, rfl, rfl, ?_⟩
      have g44 := f4.at g4' (by simp; exact npp_a)
      have g34 := f4.at g3' (by simp; exact nsc_a)
      refine ⟨_, rfl, pp, _, rfl, .inl ⟨SqL.of g44, fun t1 ht1 => ⟨_, rfl, _, rfl, _, rfl, _, rfl, a, sc, _, t.sc, _, rfl, m6, h4.new ht1, by rw [upd_ne (ne_of_none g34 ht1)]; exact g34, nsc_a, fun H5 v f5 h5 rv => ⟨sl3, fun p2 hp2 => ?_⟩⟩⟩⟩
      have ht3 : H3 t1 = none := by
        cases z : H3 t1 with
        | none => rfl
        | some o =>
          have z1 : t1 ≠ a := fun y => by rw [y, h4] at ht1; cases ht1
          rw [f4.at z (by simp; exact z1)] at ht1
          cases ht1
      refine out _ _ t1 _ k2 ht3 ?_ (h5.new hp2) (rep_new hp2 (.cons .str (.cons .str (.one rv))))
      exact fun b o hb nb => (f5.trans (Fr.new hp2)) b o (by
        by_cases e : b = t1
        · rw [e, upd_same] at hb
          rw [e, upd_same]
          exact hb
        · rw [upd_ne e] at hb ⊢
          exact f4 b o hb nb) nb
    · rw [if_neg c2] at k2
      exact ⟨_, rfl, pp, _, rfl, .inl ⟨SqL.of g4', fun t1 ht1 => ⟨_, rfl, _, rfl, a, sc, _, t.sc, rfl, h3.new ht1, by rw [upd_ne (ne_of_none g3' ht1)]; exact g3', nsc_a, fun H4 v f4 h4 rv => ⟨sl2, fun p2 hp2 => out _ _ t1 _ k2 ht1 (f4.trans (Fr.new hp2)) (h4.new hp2) (rep_new hp2 (.cons .str (.one rv)))⟩⟩⟩⟩
  case iff =>
    obtain ⟨m, rfl⟩ : ∃ m, d = m + 1 := ⟨d - 1, by omega⟩
    have k5 := k4 m rfl q1
    have us1 := gBlock_us heads cell m t.sc t.us (gAtom t.sc (gNext t.l 6).2).2
    unfold nB at hb
    refine ⟨_, rfl, _, rfl, a, sc, _, t.sc, rfl, h3, g3', nsc_a, fun H4 va f4 h4 ra => ?_⟩
    generalize hat : gAtom t.sc (gNext t.l 6).2 = at1 at *
    have a4 := f4.at g4' (by simp; exact npp_a)
    have a2 := f4.at g2' (by simp; exact nua)
    have a3 := f4.at g3' (by simp; exact nsc_a)
    have hh4 : HeadsAt H4 hs heads := hh3.keep f4 (f4.imm1 h3) (by simp; exact nha)
    refine ⟨_, rfl, _, rfl, _, rfl, _, rfl, _, rfl, _, rfl, _, _, rfl, rfl, a, hs, sc, u, _, heads, t.sc, t.us, cell, congrArg (fun z => [V.ref a, V.ref hs, V.ref sc, V.ref u, V.int cell, V.int z]) (by omega), by omega, h4, hh4, .inl a3, a2, nua, nha, nhu, by omega, tl3.2.2.2 hsu, fun H5 vb f5 h5 u5 rb => ?_⟩
    have i5 : Imm H4 H5 := f5.imm2 h4 a2
    have b4 := f5.at a4 (by simp; exact ⟨npp_a, npp_u⟩)
    have b3 := f5.at a3 (by simp; exact ⟨nsc_a, nsc_u⟩)
    have hh5 : HeadsAt H5 hs heads := hh4.keep f5 i5 nh
    refine ⟨_, rfl, _, rfl, _, rfl, _, rfl, _, rfl, _, rfl, _, _, rfl, rfl, a, hs, sc, u, _, heads, t.sc, _, cell, congrArg (fun z => [V.ref a, V.ref hs, V.ref sc, V.ref u, V.int cell, V.int z]) (by omega), by omega, h5, hh5, .inl b3, u5, nua, nha, nhu, by omega, ?_, fun H6 vc f6 h6 u6 rc => ?_⟩
    · exact Nat.le_trans (tl3.2.2.2 hsu) (gBlock_us_ge heads cell m t.sc t.us at1.2)
    have i6 : Imm H5 H6 := f6.imm2 h5 u5
    have c4 := f6.at b4 (by simp; exact ⟨npp_a, npp_u⟩)
    refine ⟨_, rfl, pp, _, rfl, .inl ⟨SqL.of c4, fun t1 ht1 => ⟨_, rfl, _, rfl, _, rfl, sl4, fun p2 hp2 => ⟨sl2, fun q hq => ?_⟩⟩⟩⟩
    have i34 : Imm H3 H4 := f4.imm1 h3
    have it1 : Imm H6 (upd H6 t1 (.tup xs)) := imm_upd (soft_none ht1)
    refine k5 _ _ ?_ ((h6.new ht1).new hp2 |>.new hq) ?_ ?_
    · exact f33.trans ((f4.mono (by simp)).trans (f5.trans (f6.trans ((Fr.new ht1).trans ((Fr.new hp2).trans (Fr.new hq))))))
    · have z1 := (Fr.new (S := []) (o := .tup xs) ht1).at u6
      have z2 := (Fr.new (S := []) (o := .tup [V.str "if", va, vb, vc]) hp2).at z1
      exact (Fr.new (S := []) hq).at z2
    · refine rep_new hq (.cons ?_ (.one ?_))
      · exact (rep_new ht1 (g5'.mono (i34.trans (i5.trans i6)))).mono (imm_upd (soft_none hp2))
      · exact rep_new hp2 (.cons .str (.cons (ra.mono (i5.trans (i6.trans it1))) (.cons (rb.mono (i6.trans it1)) (.one (rc.mono it1)))))
end
end FK
/-! FKG8 -/
set_option maxHeartbeats 400000
namespace FK
open PySem PySem.Spec PyProof.Rows L2
open TL (tl)
theorem Fr.free {S : List Addr} {H H' : Hp} {p : Addr} (f : Fr S H H') (h : H' p = none) (n : p ∉ S) : H p = none := by
  cases z : H p with
  | none => rfl
  | some o => rw [f _ _ z n] at h; cases h
theorem Fr.forget {S S' : List Addr} {H0 H H' : Hp} (g : Fr S' H0 H) (f : Fr S H H') (h : ∀ b ∈ S, b ∈ S' ∨ H0 b = none) : Fr S' H0 H' := fun b o e n => f b o (g b o e n) fun m => by
  rcases h b m with z | z
  · exact n z
  · rw [e] at z; cases z
/-! ### a program -/
def headsTab : List Nat := [0, 1, 2, 3, 1, 2, 6]
def gHeadsL (cell : Int) : Nat → List Int → List (Str × Nat) × List Int
  | 0, l => ([], l)
  | n + 1, l => ((gHeadsL cell n l).1 ++ [(gName cell n, headsTab.getD (gNext (gHeadsL cell n l).2 7).1.toNat 0)], (gNext (gHeadsL cell n l).2 7).2)
theorem gHeadsL_len (cell : Int) (l : List Int) : ∀ n, (gHeadsL cell n l).1.length = n
  | 0 => rfl
  | n + 1 => by rw [gHeadsL, List.length_append, gHeadsL_len cell l n]; rfl
theorem headsTab_le : ∀ k : Nat, headsTab.getD k 0 ≤ 6 := fun k => by
  by_cases h : k < 7
  · have : ∀ k : Nat, k < 7 → headsTab.getD k 0 ≤ 6 := by decide
    exact this k h
  · rw [List.getD_eq_getElem?_getD, List.getElem?_eq_none (by show 7 ≤ k; omega)]
    exact Nat.zero_le _
theorem gHeadsL_le (cell : Int) (l : List Int) : ∀ n, ∀ p ∈ (gHeadsL cell n l).1, p.2 ≤ 6
  | 0, p, h => by cases h
  | n + 1, p, h => by
    rw [gHeadsL] at h
    rcases List.mem_append.mp h with h | h
    · exact gHeadsL_le cell l n p h
    · rw [List.mem_singleton.mp h]
      exact headsTab_le _
def gHeads (n : Nat) (l : List Int) : List (Str × Nat) × List Int := gHeadsL (gNext l 1000000007).1 n (gNext l 1000000007).2
def spHeads : Sp := fun vs H Q _ => ∃ (a : Addr) (l : List Int) (n : Nat), vs = [.ref a, .int (n : Int)] ∧ LI H a l ∧ 1 ≤ n ∧ n ≤ 8 ∧
  ∀ H' p, Fr [a] H H' → LI H' a (gHeads n l).2 → HeadsAt H' p (gHeads n l).1 → H p = none → Q (.ref p) H'
def namesOf (cell : Int) (m : Nat) : List Str := (List.range m).map (gName cell)
def gFn (heads : List (Str × Nat)) (p : Str × Nat) (l : List Int) : Fn × List Int :=
  let c := gNext l 1000000007
  let b := gBlock heads c.1 3 (namesOf c.1 p.2) (namesOf c.1 p.2) c.2
  (⟨p.1, namesOf c.1 p.2, b.1⟩, b.2.2)
def gFns (heads : List (Str × Nat)) : Nat → List Int → List Fn × List Int
  | 0, l => ([], l)
  | n + 1, l => ((gFns heads n l).1 ++ [(gFn heads (headAt heads (n : Int)) (gFns heads n l).2).1], (gFn heads (headAt heads (n : Int)) (gFns heads n l).2).2)
theorem gFns_len (heads : List (Str × Nat)) (l : List Int) : ∀ n, (gFns heads n l).1.length = n
  | 0 => rfl
  | n + 1 => by rw [gFns, List.length_append, gFns_len heads l n]; rfl
def gProgram (l : List Int) : Prog × List Int :=
  let h := gHeads (1 + (gNext l 4).1).toNat (gNext l 4).2
  gFns h.1 h.1.length h.2
def spProg (f : List Int → Prog × List Int) : Sp := fun vs H Q _ => ∃ (a : Addr) (l : List Int), vs = [.ref a] ∧ LI H a l ∧
  ∀ H' v, Fr [a] H H' → LI H' a (f l).2 → Rep H' (progD (f l).1) v → Q v H'
section
variable {P : Program} {w : World} {K : PySem.W.Frag} {mg : Str → Option Value} {base : Heap}
theorem ok_block (T : TX K mg) : ∀ d, C8.Cal P w K mg base (8 + d) "_law_block" (spBlock d) []
  | 0 => by
    refine ok_block_step T (d := 0) ?_
    obtain ⟨f, fd, ps, ds, F, a, b, c, d⟩ := (cal_none (P := P) (w := w) (base := base) T.f_g_block T.g__law_block (ps := ["_law_deck_here", "_law_heads_here", "_law_scope", "_law_used", "_law_cell", "_law_deep"]) (sp := spB 0) (fun _ _ _ _ _ _ us hl => match us, hl with | [_, _, _, _, _, _], _ => rfl) fun vs H Q E h => h).ex
    exact ⟨f, fd, ps, ds, F.mono (by decide), a, b, c, d⟩
  | d + 1 => ok_block_step T (d := d + 1) (by
      have := ok_block T d
      have e : 8 + d = 7 + (d + 1) := by omega
      rw [e] at this
      exact this)
theorem sc_g_heads : FnScope ["_law_deck_here", "_law_many", "_law_cell", "_law_k"] ["_law_deck_here", "_law_many"] (defScope s_g_heads) := C8.fnScope_by (by decide +kernel)
theorem ok_heads (T : TX K mg) : C8.Cal P w K mg base 3 "_law_heads" spHeads [] := by
  have c__law_next : C8.Cal P w K mg base 1 "_law_next" spNext [] := ok_next T
  have c__law_name : C8.Cal P w K mg base 2 "_law_name" (spName gName) [] := ok_name T
  refine cal_of T.f_g_heads T.g__law_heads sc_g_heads (fun _ _ _ _ _ _ us hl => match us, hl with | [_, _], _ => rfl) (fun vs H Q E h => ?_) (fun cdv A outer s H vs Q E hr h => ?_)
  · obtain ⟨a, l, n, rfl, _⟩ := h
    rfl
  obtain ⟨a, l, n, rfl, ha, hn1, hn8, k⟩ := h
  refine ⟨_, (pss_cons (ps_set (i := 2) sc_g_heads.nd rfl (by first | exact Or.inl rfl | exact Or.inr rfl) (C8.pe_c c__law_next hr (by omega) (by rfl) (pa_cons (pv 0) (pa_cons pe_int pa_nil))))
      (pss_one (ps_ret (pe_lc (own := [("_law_k", 3)]) (by rfl) sc_g_heads.nd (pi_range1 (by rfl) T.z_range (pa_cons (pv 1) pa_nil)) (blkOk_by (own := [("_law_k", 3)]) (N := ["_law_deck_here", "_law_many", "_law_cell", "_law_k"]) (sc := defScope s_g_heads) (by decide +kernel)) (fun _ _ _ _ _ => (pg_name (i := 3) sc_g_heads.nd rfl (by first | exact Or.inl rfl | exact Or.inr rfl))) (fun _ _ _ _ _ => pts_nil) (fun _ _ _ _ _ => (pe_tup (pa_cons (C8.pe_c c__law_name hr (by omega) (by rfl) (pa_cons (pv 2) (pa_cons (pv 3) pa_nil))) (pa_cons (pe_ix (r := rIxL K) ix_list (pe_lst (pa_cons pe_int (pa_cons pe_int (pa_cons pe_int (pa_cons pe_int (pa_cons pe_int (pa_cons pe_int (pa_cons pe_int pa_nil)))))))) (C8.pe_c c__law_next hr (by omega) (by rfl) (pa_cons (pv 0) (pa_cons pe_int pa_nil))) (fun _ _ => rfl)) pa_nil)))))))), ?_⟩
  refine ⟨_, rfl, a, l, 1000000007, rfl, ha, by decide, fun H1 f1 h1 => ?_⟩
  unfold gHeads at k
  generalize hc : (gNext l 1000000007).1 = c at *
  generalize hl1 : (gNext l 1000000007).2 = l1 at *
  refine ⟨_, rfl, (n : Int), rfl, by omega, by omega, fun D hD => ?_⟩
  have nD : a ≠ D := ne_of_none h1 hD
  have hD0 : H D = none := f1.free hD (by simp; exact nD.symm)
  refine lc_range (lo := 0) (n := n) (fun i H2 => LI H2 a (gHeadsL c i l1).2 ∧ Fr [a] H H2 ∧ ∃ xs, H2 D = some (.lst xs) ∧ RepL H2 ((gHeadsL c i l1).1.map headD) xs)
    ⟨h1.new hD, f1.trans (Fr.new hD), [], upd_same, RepL.nil⟩ (fun i H2 hi ⟨g1, g2, xs, g3, g4⟩ => ?_) (fun H2 ⟨g1, g2, xs, g3, g4⟩ => ?_)
  · refine ⟨rfl, ?_⟩
    rw [Int.zero_add]
    refine ⟨_, rfl, _, rfl, c, i, rfl, by omega, fun H3 f3 => ⟨(by show 7 ≤ sizeLine; decide), fun p hp => ?_⟩⟩
    refine ⟨_, rfl, a, _, 7, rfl, LI.new (f3.at g1) hp, by decide, fun H4 f4 h4 => ?_⟩
    have g3' := f3.at g3
    have np : p ≠ a := fun z => by rw [z, f3.at g1] at hp; cases hp
    have lo7 := gNext_lo (gHeadsL c i l1).2 (show (0 : Int) < 7 by decide)
    have hi7 := gNext_hi (gHeadsL c i l1).2 (show (0 : Int) < 7 by decide)
    refine ⟨p, (headsTab.map Int.ofNat).map V.int, _, _, rfl, rfl, SqL.of (f4.at upd_same (by simp; exact np)), atI_ints lo7 (by show _ < (7 : Int); exact hi7), sl2, fun q hq => ?_⟩
    have f24 : Fr [a] H2 H4 := (Fr.mono f3 (by simp)).trans ((Fr.new hp).trans f4)
    have gD : upd H4 q (.tup [V.str (gName c i), V.int ((headsTab.map Int.ofNat).getD (gNext (gHeadsL c i l1).2 7).1.toNat 0)]) D = some (.lst xs) := by
      have z := f24.at g3 (by simp; exact nD.symm)
      rw [upd_ne (ne_of_none z hq)]
      exact z
    refine ⟨xs, gD, ?_, LI.keep (h4.new hq) nD, (g2.trans (f24.trans (Fr.new hq))).put_new hD0, _, upd_same, ?_⟩
    · rw [g4.length, List.length_map, gHeadsL_len]
      exact sl_lt (by omega)
    · rw [gHeadsL, List.map_append]
      have i1 : Imm H2 (upd H4 q (.tup [V.str (gName c i), V.int ((headsTab.map Int.ofNat).getD (gNext (gHeadsL c i l1).2 7).1.toNat 0)])) := (f24.imm1 g1).trans (imm_upd (soft_none hq))
      have e : ∀ j : Nat, (headsTab.map Int.ofNat).getD j 0 = ((headsTab.getD j 0 : Nat) : Int) := fun j => by
        rw [List.getD_eq_getElem?_getD, List.getD_eq_getElem?_getD, List.getElem?_map]
        cases headsTab[j]? <;> rfl
      have r1 : Rep (upd H4 q (.tup [V.str (gName c i), V.int ((headsTab.map Int.ofNat).getD (gNext (gHeadsL c i l1).2 7).1.toNat 0)])) (headD (gName c i, headsTab.getD (gNext (gHeadsL c i l1).2 7).1.toNat 0)) (.ref q) := by
        refine rep_new hq (.cons .str (.one ?_))
        rw [e]
        exact .int
      exact ((g4.mono i1).snoc r1).mono (imm_upd (soft_lst gD))
  · refine k _ _ g2 g1 ⟨xs, g3, g4, ?_, gHeadsL_le c l1 n⟩ hD0
    intro z
    have := gHeadsL_len c l1 n
    rw [z] at this
    simp at this
    omega
theorem sc_g_program : FnScope ["_law_deck_here", "_law_heads_here", "_law_program_here", "_law_name_here", "_law_many", "_law_cell", "_law_used", "_law_params", "_law_k"] ["_law_deck_here"] (defScope s_g_program) := C8.fnScope_by (by decide +kernel)
theorem ok_program (T : TX K mg) : C8.Cal P w K mg base 12 "_law_program" (spProg gProgram) [] := by
  have c__law_next : C8.Cal P w K mg base 1 "_law_next" spNext [] := ok_next T
  have c__law_name : C8.Cal P w K mg base 2 "_law_name" (spName gName) [] := ok_name T
  have c__law_heads : C8.Cal P w K mg base 3 "_law_heads" spHeads [] := ok_heads T
  have c__law_block : C8.Cal P w K mg base 11 "_law_block" (spBlock 3) [] := ok_block T 3
  refine cal_of T.f_g_program T.g__law_program sc_g_program (fun _ _ _ _ _ _ us hl => match us, hl with | [_], _ => rfl) (fun vs H Q E h => ?_) (fun cdv A outer s H vs Q E hr h => ?_)
  · obtain ⟨a, l, rfl, _⟩ := h
    rfl
  obtain ⟨a, l, rfl, ha, k⟩ := h
  refine ⟨_, (pss_cons (ps_set (i := 1) sc_g_program.nd rfl (by first | exact Or.inl rfl | exact Or.inr rfl) (C8.pe_c c__law_heads hr (by omega) (by rfl) (pa_cons (pv 0) (pa_cons (pe_op op_add pe_int (C8.pe_c c__law_next hr (by omega) (by rfl) (pa_cons (pv 0) (pa_cons pe_int pa_nil)))) pa_nil))))
      (pss_cons (ps_set (i := 2) sc_g_program.nd rfl (by first | exact Or.inl rfl | exact Or.inr rfl) (pe_lst pa_nil))
      (pss_cons (ps_for PassesOwn.never rfl (pi_list (pv 1)) (pg_tup rfl (pgs_cons (pg_name (i := 3) sc_g_program.nd rfl (by first | exact Or.inl rfl | exact Or.inr rfl)) (pgs_cons (pg_name (i := 4) sc_g_program.nd rfl (by first | exact Or.inl rfl | exact Or.inr rfl)) pgs_nil)))
        (pss_cons (ps_set (i := 5) sc_g_program.nd rfl (by first | exact Or.inl rfl | exact Or.inr rfl) (C8.pe_c c__law_next hr (by omega) (by rfl) (pa_cons (pv 0) (pa_cons pe_int pa_nil))))
      (pss_cons (ps_setLc (i := 6) (own := [("_law_k", 8)]) (by rfl) sc_g_program.nd rfl rfl (sw_true rfl rfl rfl (by decide +kernel)) (pi_range1 (by rfl) T.z_range (pa_cons (pv 4) pa_nil)) (blkOk_by (own := [("_law_k", 8)]) (N := ["_law_deck_here", "_law_heads_here", "_law_program_here", "_law_name_here", "_law_many", "_law_cell", "_law_used", "_law_params", "_law_k"]) (sc := defScope s_g_program) (by decide +kernel)) (fun _ _ _ _ _ => (pg_name (i := 8) sc_g_program.nd rfl (by first | exact Or.inl rfl | exact Or.inr rfl))) (fun _ _ _ _ _ => pts_nil) (fun _ _ _ _ _ => (C8.pe_c c__law_name hr (by omega) (by rfl) (pa_cons (pv 5) (pa_cons (pv 8) pa_nil)))))
      (pss_cons (ps_set (i := 7) sc_g_program.nd rfl (by first | exact Or.inl rfl | exact Or.inr rfl) (pe_callTy call_tuple_of (by rfl) T.z_tuple (by decide +kernel) (pa_cons (pv 6) pa_nil)))
      (pss_one (ps_expr (pe_bm PySem.F.plainAttrs_list PySem.F.slot_list_append PySem.F.type_list_append mt_append (pv 2) (pa_cons (pe_tup (pa_cons (pv 3) (pa_cons (pv 7) (pa_cons (C8.pe_c c__law_block hr (by omega) (by rfl) (pa_cons (pv 0) (pa_cons (pv 1) (pa_cons (pv 7) (pa_cons (pv 6) (pa_cons (pv 5) (pa_cons pe_int pa_nil))))))) pa_nil)))) pa_nil))))))))
      (pss_one (ps_ret (pe_callTy call_tuple_of (by rfl) T.z_tuple (by decide +kernel) (pa_cons (pv 2) pa_nil))))))), ?_⟩
  have lo4 := gNext_lo l (show (0 : Int) < 4 by decide)
  have hi4 := gNext_hi l (show (0 : Int) < 4 by decide)
  refine ⟨_, rfl, _, rfl, a, l, 4, rfl, ha, by decide, fun H1 f1 h1 => ?_⟩
  refine ⟨_, _, rfl, rfl, a, _, (1 + (gNext l 4).1).toNat, ?_, h1, by omega, by omega, fun H2 hs f2 h2 hh hhn => ?_⟩
  · rw [Int.toNat_of_nonneg (by omega)]
    rfl
  unfold gProgram at k
  simp only [] at k
  have lenh : (gHeads (1 + (gNext l 4).1).toNat (gNext l 4).2).1.length = (1 + (gNext l 4).1).toNat := gHeadsL_len _ _ _
  generalize gHeads (1 + (gNext l 4).1).toNat (gNext l 4).2 = hd at *
  obtain ⟨heads, l2⟩ := hd
  have lenh2 : heads.length = (1 + (gNext l 4).1).toNat := lenh
  have nha : hs ≠ a := fun z => by rw [z, h1] at hhn; cases hhn
  refine ⟨sl0, fun r hr0 => ?_⟩
  have nra : r ≠ a := fun z => by rw [z, h2] at hr0; cases hr0
  have f12 : Fr [a] H H2 := f1.trans f2
  have hr00 : H r = none := f12.free hr0 (by simp; exact nra)
  obtain ⟨xs0, hx, rx, hne, h6⟩ := hh
  have xl : xs0.length = heads.length := by rw [rx.length, List.length_map]
  have nrh : hs ≠ r := ne_of_none hx hr0
  refine ⟨_, rfl, hs, rfl, ⟨_, SqL.of (by rw [upd_ne nrh]; exact hx)⟩, ?_⟩
  refine for_list (K := K) (a := hs) (xs := xs0) (fun i σ H3 => ∃ v3 v4 v5 v6 v7 ys, σ = [some (V.ref a), some (V.ref hs), some (V.ref r), v3, v4, v5, v6, v7, none] ∧ LI H3 a (gFns heads i l2).2 ∧ Fr [a] H H3 ∧ HeadsAt H3 hs heads ∧ H3 hs = some (.lst xs0) ∧ RepL H3 (heads.map headD) xs0 ∧ H3 r = some (.lst ys) ∧ RepL H3 ((gFns heads i l2).1.map Fn.d) ys)
    ⟨none, none, none, none, none, [], rfl, h2.new hr0, f12.trans (Fr.new hr0), ⟨xs0, by rw [upd_ne nrh]; exact hx, rx.mono (imm_upd (soft_none hr0)), hne, h6⟩, by rw [upd_ne nrh]; exact hx, rx.mono (imm_upd (soft_none hr0)), upd_same, RepL.nil⟩ (fun i σ H3 _ ⟨_, _, _, _, _, _, _, _, _, _, q, _⟩ => SqL.of q) ?_ ?_
  · rintro i x σ H3 hxi ⟨v3, v4, v5, v6, v7, ys, rfl, g1, g2, g3, g4, g5, g6, g7⟩
    obtain ⟨d', hd, hrx⟩ := g5.at hxi
    rw [List.getElem?_map] at hd
    obtain ⟨p, hp, rfl⟩ := Option.map_eq_some_iff.mp hd
    have hp6 := h6 p (List.mem_of_getElem? hp)
    have ep : headAt heads (i : Int) = p := by
      unfold headAt
      rw [Int.toNat_natCast, List.getD_eq_getElem?_getD, hp]
      rfl
    have hil : i < heads.length := by
      by_cases z : i < heads.length
      · exact z
      · rw [List.getElem?_eq_none (by omega)] at hp; cases hp
    obtain ⟨t, zs, rfl, ht, hz⟩ := hrx.t
    obtain ⟨y0, y1, rfl, r0, r1⟩ := hz.c2
    rw [rep_str] at r0
    rw [rep_int] at r1
    subst r0 r1
    rw [gFns, ep]
    refine ⟨t, _, rfl, sqT_of ht, rfl, _, _, rfl, _, _, rfl, rfl, ?_⟩
    refine ⟨_, rfl, a, _, 1000000007, rfl, g1, by decide, fun H4 f4 h4 => ?_⟩
    unfold gFn
    simp only []
    have yl : ys.length = i := by rw [g7.length, List.length_map, gFns_len]
    generalize (gFns heads i l2).2 = l3 at *
    generalize (gFns heads i l2).1 = fs at *
    generalize hc : (gNext l3 1000000007).1 = c at *
    generalize hl4 : (gNext l3 1000000007).2 = l4 at *
    refine ⟨_, rfl, (p.2 : Int), rfl, by omega, by omega, fun D hD => ?_⟩
    have nD : a ≠ D := ne_of_none h4 hD
    refine lc_range (lo := 0) (n := p.2) (fun j H5 => Fr [] H4 H5 ∧ H5 D = some (.lst ((namesOf c j).map V.str))) ⟨Fr.new hD, upd_same⟩ (fun j H5 hj ⟨q1, q2⟩ => ?_) (fun H5 ⟨q1, q2⟩ => ?_)
    · refine ⟨rfl, ?_⟩
      rw [Int.zero_add]
      refine ⟨_, rfl, _, rfl, c, j, rfl, by omega, fun H6 f6 => ?_⟩
      refine ⟨_, f6.at q2, ?_, Fr.put_new (q1.trans f6) hD, ?_⟩
      · rw [List.length_map, namesOf, List.length_map, List.length_range]
        exact sl_lt (by omega)
      · rw [upd_same, namesOf, namesOf, List.range_succ, List.map_append, List.map_append]
        rfl
    refine ⟨_, rfl, D, _, rfl, .inl ⟨SqL.of q2, fun pt hpt => ?_⟩⟩
    have h5 := q1.at h4
    have hh5 : HeadsAt (upd H5 pt (.tup ((namesOf c p.2).map V.str))) hs heads := ((g3.keep f4 (f4.imm1 g1) (by simp; exact nha)).keep q1 q1.imm0 (by simp)).keep (S := []) (Fr.new hpt) (imm_upd (soft_none hpt)) (by simp)
    have gr6 := (Fr.new (S := []) (o := .tup ((namesOf c p.2).map V.str)) hpt).at (q1.at (f4.at g6 (by simp; exact nra)))
    have nln : (namesOf c p.2).length = p.2 := by rw [namesOf, List.length_map, List.length_range]
    have nhD : hs ≠ D := ne_of_none (f4.at g4 (by simp; exact nha)) hD
    have nrD : r ≠ D := ne_of_none (f4.at g6 (by simp; exact nra)) hD
    refine ⟨_, rfl, .inl ⟨rfl, _, SqL.of gr6⟩, _, rfl, _, rfl, _, rfl, _, rfl, _, rfl, _, rfl, _, rfl, a, hs, pt, D, l4, heads, namesOf c p.2, namesOf c p.2, c, rfl, by decide, LI.new h5 hpt, hh5, .inr upd_same, (Fr.new (S := []) hpt).at q2, nD.symm, nha, nhD, ?_, Nat.le_refl _, fun H6 v f6 h6' u6 rv => ⟨sl3, fun q hq => ?_⟩⟩
    · rw [nln]
      show p.2 + 3 * 15 ≤ 900
      omega
    have hD3 : H3 D = none := f4.free hD (by simp; exact nD.symm)
    have hD0 : H D = none := g2.free hD3 (by simp; exact nD.symm)
    have f36 : Fr [a, D] H3 H6 := (f4.mono (by simp)).trans ((Fr.mono q1 (by simp)).trans ((Fr.new hpt).trans f6))
    have i5 : Imm (upd H5 pt (.tup ((namesOf c p.2).map V.str))) H6 := f6.imm2 (LI.new h5 hpt) ((Fr.new (S := []) hpt).at q2)
    have i36 : Imm H3 H6 := ((f4.imm1 g1).trans q1.imm0).trans ((imm_upd (soft_none hpt)).trans i5)
    have iq : Imm H6 (upd H6 q (.tup [V.str p.1, V.ref pt, v])) := imm_upd (soft_none hq)
    have fhs : ∀ {o}, H3 hs = some o → upd H6 q (.tup [V.str p.1, V.ref pt, v]) hs = some o := fun e => (Fr.new (S := []) hq).at (f36.at e (by simp; exact ⟨nha, nhD⟩))
    have gr7 := (Fr.new (S := []) (o := .tup [V.str p.1, V.ref pt, v]) hq).at (f6.at gr6 (by simp; exact ⟨nra, nrD⟩))
    refine ⟨r, _, _, rfl, rfl, gr7, by rw [yl]; exact sl_lt (by omega), ?_⟩
    have ir : Imm (upd H6 q (.tup [V.str p.1, V.ref pt, v])) (upd (upd H6 q (.tup [V.str p.1, V.ref pt, v])) r (.lst (ys ++ [V.ref q]))) := imm_upd (soft_lst gr7)
    have g5' := g5.mono (i36.trans (iq.trans ir))
    have rpt : Rep H6 (.tup ((namesOf c p.2).map FK.D.str)) (.ref pt) := (rep_new hpt (repL_strs _)).mono i5
    have rq := rep_new (p := q) hq (.cons (.str (x := p.1)) (.cons rpt (.one rv)))
    refine ⟨_, _, _, _, _, _, rfl, ?_, ?_, ⟨xs0, ?_, g5', hne, h6⟩, ?_, g5', upd_same, ?_⟩
    · show upd _ _ _ a = _
      rw [upd_ne nra.symm]
      exact (h6'.new hq)
    · refine Fr.put_new (g2.forget (f36.trans (Fr.new hq)) fun b hb => ?_) hr00
      rcases List.mem_cons.mp hb with e | hb
      · exact .inl (by rw [e]; simp)
      · rw [List.mem_singleton.mp hb]; exact .inr hD0
    · rw [upd_ne nrh]; exact fhs g4
    · rw [upd_ne nrh]; exact fhs g4
    · rw [List.map_append]
      exact (((g7.mono i36).mono iq).snoc rq).mono ir
  · rintro σ H3 ⟨v3, v4, v5, v6, v7, ys, rfl, g1, g2, g3, g4, g5, g6, g7⟩
    rw [xl] at g1 g7
    exact ⟨_, rfl, r, _, rfl, .inl ⟨SqL.of g6, fun t ht => k _ _ (g2.trans (Fr.new ht)) (g1.new ht) (rep_new ht g7)⟩⟩
end
end FK
/-! FKG9 -/
set_option maxHeartbeats 400000
namespace FK
open PySem PySem.Spec PyProof.Rows L2
open TL (tl)
theorem Rep.new {H : Hp} {q : Addr} {o : HO} {d : D} {v : V} (h : Rep H d v) (n : H q = none) : Rep (upd H q o) d v := h.mono (imm_upd (soft_none n))
theorem RepL.new {H : Hp} {q : Addr} {o : HO} {d : List D} {v : List V} (h : RepL H d v) (n : H q = none) : RepL (upd H q o) d v := h.mono (imm_upd (soft_none n))
theorem atI_natInts {l : List Nat} {i : Int} (h0 : 0 ≤ i) (h1 : i < l.length) : atI ((l.map Int.ofNat).map V.int) i = some (.int ((l.getD i.toNat 0 : Nat) : Int)) := by
  refine atI_get? h0 ?_
  rw [List.getElem?_map, List.getElem?_map, get?_getD 0 (by omega)]
  rfl
/-! ### a program of rows -/
def rowsMany (s : Int) : Nat := [59, 58, 20].getD (s % 3).toNat 0
theorem rowsMany_le (s : Int) : rowsMany s ≤ 59 := by
  have : ∀ k : Nat, k < 3 → [59, 58, 20].getD k 0 ≤ 59 := by decide
  exact this _ (by have := emod_hi s (show (0 : Int) < 3 by decide); have := emod_lo s (show (0 : Int) < 3 by decide); omega)
def rowStep (c s : Int) (k : Nat) : Step := .let_ (gName c (k + 1)) "add" [.of (gName c (s * (k : Int) % ((k : Int) + 1)).toNat), .is (.int (s * (k : Int) % 2001 - 1000))]
def rowSteps (c s : Int) (n : Nat) : List Step := (List.range n).map (rowStep c s)
def gRows (l : List Int) : Prog × List Int :=
  let c := gNext l 1000000007
  let s := gNext c.2 1000003
  ([⟨gName s.1 0, [gName c.1 0], .leaf (rowSteps c.1 s.1 (rowsMany s.1)) (.give (.of (gName c.1 (rowsMany s.1))))⟩], s.2)
/-! ### a deep program -/
def gDeepB (c bits : Int) : Nat → List Int → Block × List Int
  | 0, l => (.leaf [] (.give (.of (gName c 8))), l)
  | k + 1, l =>
    let b := gDeepB c bits k l
    let w := gWord b.2
    (if Builtin.bitAnd (bits / 2 ^ k) 1 = 1 then .iff [.let_ (gName c (8 - k)) "down" [.of (gName c (7 - k))]] (.of (gName c (8 - k))) (.leaf [] (.give (.is (.int (k : Int))))) b.1
     else .iff [.let_ (gName c (8 - k)) "down" [.of (gName c (7 - k))]] (.of (gName c (8 - k))) b.1 (.leaf [] (.fail w.1)), w.2)
def gDeep (l : List Int) : Prog × List Int :=
  let c := gNext l 1000000007
  let b := gNext c.2 256
  let r := gDeepB c.1 b.1 8 b.2
  ([⟨gName b.1 0, [gName c.1 0], r.1⟩], r.2)
/-! ### a long program -/
def longMany (s : Int) : Nat := [200, 200, 137].getD (s % 3).toNat 0
theorem longMany_le (s : Int) : 1 ≤ longMany s ∧ longMany s ≤ 200 := by
  have : ∀ k : Nat, k < 3 → 1 ≤ [200, 200, 137].getD k 0 ∧ [200, 200, 137].getD k 0 ≤ 200 := by decide
  exact this _ (by have := emod_hi s (show (0 : Int) < 3 by decide); have := emod_lo s (show (0 : Int) < 3 by decide); omega)
def longFn (c s : Int) (m k : Nat) : Fn := ⟨gName c k, [], .leaf [] (.go (gName c (((k : Int) * s + 1) % (m : Int)).toNat) [])⟩
def gLong (l : List Int) : Prog × List Int :=
  let c := gNext l 1000000007
  let s := gNext c.2 100
  ((List.range (longMany (1 + 2 * s.1))).map (longFn c.1 (1 + 2 * s.1) (longMany (1 + 2 * s.1))), s.2)
section
variable {P : Program} {w : World} {K : PySem.W.Frag} {mg : Str → Option Value} {base : Heap}
theorem sc_g_rows_program : FnScope ["_law_deck_here", "_law_cell", "_law_seed", "_law_many", "_law_steps", "_law_k", "_law_main", "_law_atom_here"] ["_law_deck_here"] (defScope s_g_rows_program) := C8.fnScope_by (by decide +kernel)
theorem ok_rows_program (T : TX K mg) : C8.Cal P w K mg base 3 "_law_rows_program" (spProg gRows) [] := by
  have c__law_next : C8.Cal P w K mg base 1 "_law_next" spNext [] := ok_next T
  have c__law_name : C8.Cal P w K mg base 2 "_law_name" (spName gName) [] := ok_name T
  refine cal_of T.f_g_rows_program T.g__law_rows_program sc_g_rows_program (fun _ _ _ _ _ _ us hl => match us, hl with | [_], _ => rfl) (fun vs H Q E h => ?_) (fun cdv A outer s H vs Q E hr h => ?_)
  · obtain ⟨a, l, rfl, _⟩ := h
    rfl
  obtain ⟨a, l, rfl, ha, k⟩ := h
  refine ⟨_, (pss_cons (ps_set (i := 1) sc_g_rows_program.nd rfl (by first | exact Or.inl rfl | exact Or.inr rfl) (C8.pe_c c__law_next hr (by omega) (by rfl) (pa_cons (pv 0) (pa_cons pe_int pa_nil))))
      (pss_cons (ps_set (i := 2) sc_g_rows_program.nd rfl (by first | exact Or.inl rfl | exact Or.inr rfl) (C8.pe_c c__law_next hr (by omega) (by rfl) (pa_cons (pv 0) (pa_cons pe_int pa_nil))))
      (pss_cons (ps_set (i := 3) sc_g_rows_program.nd rfl (by first | exact Or.inl rfl | exact Or.inr rfl) (pe_ix (r := rIxL K) ix_list (pe_lst (pa_cons pe_int (pa_cons pe_int (pa_cons pe_int pa_nil)))) (pe_op op_mod (pv 2) pe_int) (fun _ _ => rfl)))
      (pss_cons (ps_set (i := 4) sc_g_rows_program.nd rfl (by first | exact Or.inl rfl | exact Or.inr rfl) (pe_lst pa_nil))
      (pss_cons (ps_for PassesOwn.never rfl (pi_range1 (by rfl) T.z_range (pa_cons (pv 3) pa_nil)) (pg_name (i := 5) sc_g_rows_program.nd rfl (by first | exact Or.inl rfl | exact Or.inr rfl))
        (pss_cons (ps_set (i := 7) sc_g_rows_program.nd rfl (by first | exact Or.inl rfl | exact Or.inr rfl) (pe_tup (pa_cons pe_str (pa_cons (C8.pe_c c__law_name hr (by omega) (by rfl) (pa_cons (pv 1) (pa_cons (pe_op op_mod (pe_op op_mul (pv 2) (pv 5)) (pe_op op_add (pv 5) pe_int)) pa_nil))) pa_nil))))
      (pss_one (ps_expr (pe_bm PySem.F.plainAttrs_list PySem.F.slot_list_append PySem.F.type_list_append mt_append (pv 4) (pa_cons (pe_tup (pa_cons pe_str (pa_cons (C8.pe_c c__law_name hr (by omega) (by rfl) (pa_cons (pv 1) (pa_cons (pe_op op_add (pv 5) pe_int) pa_nil))) (pa_cons pe_str (pa_cons (pe_tup (pa_cons (pv 7) (pa_cons (pe_tup (pa_cons pe_str (pa_cons (pe_op op_sub (pe_op op_mod (pe_op op_mul (pv 2) (pv 5)) pe_int) pe_int) pa_nil))) pa_nil))) pa_nil))))) pa_nil))))))
      (pss_cons (ps_set (i := 6) sc_g_rows_program.nd rfl (by first | exact Or.inl rfl | exact Or.inr rfl) (pe_tup (pa_cons (C8.pe_c c__law_name hr (by omega) (by rfl) (pa_cons (pv 2) (pa_cons pe_int pa_nil))) (pa_cons (pe_tup (pa_cons (C8.pe_c c__law_name hr (by omega) (by rfl) (pa_cons (pv 1) (pa_cons pe_int pa_nil))) pa_nil)) (pa_cons (pe_tup (pa_cons (pe_callTy call_tuple_of (by rfl) T.z_tuple (by decide +kernel) (pa_cons (pv 4) pa_nil)) (pa_cons (pe_tup (pa_cons pe_str (pa_cons (pe_tup (pa_cons pe_str (pa_cons (C8.pe_c c__law_name hr (by omega) (by rfl) (pa_cons (pv 1) (pa_cons (pv 3) pa_nil))) pa_nil))) pa_nil))) pa_nil))) pa_nil)))))
      (pss_one (ps_ret (pe_tup (pa_cons (pv 6) pa_nil)))))))))), ?_⟩
  unfold gRows at k
  simp only [] at k
  refine ⟨_, rfl, a, l, 1000000007, rfl, ha, by decide, fun H1 f1 h1 => ?_⟩
  generalize hc : (gNext l 1000000007).1 = c at *
  generalize hl1 : (gNext l 1000000007).2 = l1 at *
  have slo := gNext_lo l1 (show (0 : Int) < 1000003 by decide)
  have shi := gNext_hi l1 (show (0 : Int) < 1000003 by decide)
  refine ⟨_, rfl, a, l1, 1000003, rfl, h1, by decide, fun H2 f2 h2 => ?_⟩
  generalize hs : (gNext l1 1000003).1 = sd at *
  generalize hl2 : (gNext l1 1000003).2 = l2 at *
  have f12 : Fr [a] H H2 := f1.trans f2
  refine ⟨sl3, fun p hp => ?_⟩
  have m59 := rowsMany_le sd
  have hm : atI (([59, 58, 20].map Int.ofNat).map V.int) (sd % 3) = some (.int ((rowsMany sd : Nat) : Int)) := atI_natInts (emod_lo _ (by decide)) (by have := emod_hi sd (show (0 : Int) < 3 by decide); exact this)
  generalize rowsMany sd = n at *
  refine ⟨_, rfl, _, _, rfl, rfl, (by show (0 : Int) < 3; decide), p, _, _, _, rfl, rfl, SqL.of upd_same, hm, sl0, fun r hr0 => ?_⟩
  have f3 : Fr [a] H (upd (upd H2 p (.lst [V.int 59, V.int 58, V.int 20])) r (.lst [])) := f12.trans ((Fr.new hp).trans (Fr.new hr0))
  have h3 : LI (upd (upd H2 p (.lst [V.int 59, V.int 58, V.int 20])) r (.lst [])) a l2 := (LI.new (LI.new h2 hp) hr0)
  have nra : r ≠ a := fun z => by rw [z, LI.new h2 hp] at hr0; cases hr0
  have hr00 : H r = none := (f12.trans (Fr.new hp)).free hr0 (by simp; exact nra)
  have g0 : (upd (upd H2 p (.lst [V.int 59, V.int 58, V.int 20])) r (.lst [])) r = some (.lst []) := upd_same
  generalize upd (upd H2 p (.lst [V.int 59, V.int 58, V.int 20])) r (.lst []) = H3 at *
  refine ⟨_, rfl, (n : Int), rfl, by omega, by omega, ?_⟩
  refine for_range (lo := 0) (n := n) (fun i σ H4 => ∃ vk va xs, σ = [some (V.ref a), some (V.int c), some (V.int sd), some (V.int (n : Int)), some (V.ref r), vk, none, va] ∧ LI H4 a l2 ∧ Fr [a] H H4 ∧ H4 r = some (.lst xs) ∧ RepL H4 ((rowSteps c sd i).map Step.d) xs)
    ⟨none, none, [], rfl, h3, f3, g0, RepL.nil⟩ ?_ ?_
  · rintro i σ H4 hi ⟨vk, va, xs, rfl, g1, g2, g3, g4⟩
    have xl : xs.length = i := by rw [g4.length, List.length_map, rowSteps, List.length_map, List.length_range]
    refine ⟨_, rfl, _, rfl, _, rfl, _, _, rfl, rfl, .inl ⟨by omega, by omega⟩, _, rfl, _, _, rfl, rfl, _, _, rfl, rfl, (by show (0 : Int) < 0 + (i : Int) + 1; omega), ?_⟩
    rw [Int.zero_add]
    have e0 := emod_lo (sd * (i : Int)) (show (0 : Int) < (i : Int) + 1 by omega)
    have e1 := emod_hi (sd * (i : Int)) (show (0 : Int) < (i : Int) + 1 by omega)
    refine ⟨c, (sd * (i : Int) % ((i : Int) + 1)).toNat, by rw [Int.toNat_of_nonneg e0]; rfl, by omega, fun H5 f5 => ⟨sl2, fun p2 hp2 => ?_⟩⟩
    have k3 := fun o => (Fr.new (S := []) (o := o) hp2).at (f5.at g3)
    refine ⟨_, rfl, .inl ⟨rfl, _, SqL.of (k3 _)⟩, _, rfl, _, rfl, _, _, rfl, rfl, c, i + 1, rfl, by omega, fun H6 f6 => ?_⟩
    refine ⟨_, rfl, _, rfl, _, rfl, _, _, rfl, rfl, .inl ⟨by omega, by omega⟩, _, _, rfl, rfl, (by show (0 : Int) < 2001; decide), _, _, rfl, rfl, sl2, fun p3 hp3 => ⟨sl2, fun p4 hp4 => ⟨sl4, fun p5 hp5 => ?_⟩⟩⟩
    have r2 := ((rep_new hp2 (.cons (.str (x := "of")) (.one (.str (x := gName c (sd * (i : Int) % ((i : Int) + 1)).toNat))))).mono f6.imm0)
    have r3 := rep_new hp3 (.cons (.str (x := "is")) (.one (.int (i := sd * (i : Int) % 2001 - 1000))))
    have r4 := rep_new hp4 (.cons ((r2.new hp3)) (.one r3))
    have r5 := rep_new hp5 (.cons (.str (x := "let")) (.cons (.str (x := gName c (i + 1))) (.cons (.str (x := "add")) (.one r4))))
    have fz := fun o => f5.trans ((Fr.new hp2).trans (f6.trans ((Fr.new hp3).trans ((Fr.new hp4).trans (Fr.new (o := o) hp5)))))
    have k4 := fun o => (fz o).at g3
    refine ⟨r, _, _, rfl, rfl, k4 _, by rw [xl]; exact sl_lt (by omega), _, _, _, rfl, LI.keep ((fz _).at g1) nra.symm, (g2.trans (Fr.mono (fz _) (by simp))).put_new hr00, upd_same, ?_⟩
    rw [rowSteps, List.range_succ, List.map_append, List.map_append]
    exact ((g4.mono (fz _).imm0).snoc r5).mono (imm_upd (soft_lst (k4 _)))
  rintro σ H4 ⟨vk, va, xs, rfl, g1, g2, g3, g4⟩
  refine ⟨_, rfl, sd, 0, rfl, by decide, fun H5 f5 => ⟨_, rfl, c, 0, rfl, by decide, fun H6 f6 => ⟨sl1, fun p1 hp1 => ?_⟩⟩⟩
  have f46 := f5.trans f6
  refine ⟨_, rfl, r, _, rfl, .inl ⟨SqL.of ((Fr.new (S := []) hp1).at (f46.at g3)), fun t ht => ⟨_, rfl, _, rfl, c, n, rfl, by omega, fun H7 f7 => ⟨sl2, fun p2 hp2 => ⟨sl2, fun p3 hp3 => ⟨sl2, fun p4 hp4 => ⟨sl3, fun p5 hp5 => ⟨_, rfl, sl1, fun p6 hp6 => ?_⟩⟩⟩⟩⟩⟩⟩⟩
  have rt := rep_new ht (g4.mono ((f46.trans (Fr.new hp1)).imm0))
  have r1 := rep_new hp1 (.one (.str (x := gName c 0)))
  have r2 := rep_new hp2 (.cons (.str (x := "of")) (.one (.str (x := gName c n))))
  have r3 := rep_new hp3 (.cons (.str (x := "give")) (.one r2))
  have r4 := rep_new hp4 (.cons (((rt.mono f7.imm0).new hp2).new hp3) (.one r3))
  have r5 := rep_new hp5 (.cons (.str (x := gName sd 0)) (.cons (((((r1.new ht).mono f7.imm0).new hp2).new hp3).new hp4) (.one r4)))
  have r6 := rep_new hp6 (.one r5)
  have fz := fun o => f46.trans ((Fr.new hp1).trans ((Fr.new ht).trans (f7.trans ((Fr.new hp2).trans ((Fr.new hp3).trans ((Fr.new hp4).trans ((Fr.new hp5).trans (Fr.new (o := o) hp6))))))))
  exact k _ _ (g2.trans (Fr.mono (fz _) (by simp))) ((fz _).at g1) r6
theorem sc_g_deep_program : FnScope ["_law_deck_here", "_law_cell", "_law_bits", "_law_block_here", "_law_k", "_law_name_here", "_law_step_here", "_law_end"] ["_law_deck_here"] (defScope s_g_deep_program) := C8.fnScope_by (by decide +kernel)
theorem ok_deep_program (T : TX K mg) : C8.Cal P w K mg base 3 "_law_deep_program" (spProg gDeep) [] := by
  have c__law_next : C8.Cal P w K mg base 1 "_law_next" spNext [] := ok_next T
  have c__law_name : C8.Cal P w K mg base 2 "_law_name" (spName gName) [] := ok_name T
  have c__law_word : C8.Cal P w K mg base 2 "_law_word" spWord [] := ok_word T
  refine cal_of T.f_g_deep_program T.g__law_deep_program sc_g_deep_program (fun _ _ _ _ _ _ us hl => match us, hl with | [_], _ => rfl) (fun vs H Q E h => ?_) (fun cdv A outer s H vs Q E hr h => ?_)
  · obtain ⟨a, l, rfl, _⟩ := h
    rfl
  obtain ⟨a, l, rfl, ha, k⟩ := h
  refine ⟨_, (pss_cons (ps_set (i := 1) sc_g_deep_program.nd rfl (by first | exact Or.inl rfl | exact Or.inr rfl) (C8.pe_c c__law_next hr (by omega) (by rfl) (pa_cons (pv 0) (pa_cons pe_int pa_nil))))
      (pss_cons (ps_set (i := 2) sc_g_deep_program.nd rfl (by first | exact Or.inl rfl | exact Or.inr rfl) (C8.pe_c c__law_next hr (by omega) (by rfl) (pa_cons (pv 0) (pa_cons pe_int pa_nil))))
      (pss_cons (ps_set (i := 3) sc_g_deep_program.nd rfl (by first | exact Or.inl rfl | exact Or.inr rfl) (pe_tup (pa_cons (pe_tup pa_nil) (pa_cons (pe_tup (pa_cons pe_str (pa_cons (pe_tup (pa_cons pe_str (pa_cons (C8.pe_c c__law_name hr (by omega) (by rfl) (pa_cons (pv 1) (pa_cons pe_int pa_nil))) pa_nil))) pa_nil))) pa_nil))))
      (pss_cons (ps_for PassesOwn.never rfl (pi_range1 (by rfl) T.z_range (pa_cons pe_int pa_nil)) (pg_name (i := 4) sc_g_deep_program.nd rfl (by first | exact Or.inl rfl | exact Or.inr rfl))
        (pss_cons (ps_set (i := 5) sc_g_deep_program.nd rfl (by first | exact Or.inl rfl | exact Or.inr rfl) (C8.pe_c c__law_name hr (by omega) (by rfl) (pa_cons (pv 1) (pa_cons (pe_op op_sub pe_int (pv 4)) pa_nil))))
      (pss_cons (ps_set (i := 6) sc_g_deep_program.nd rfl (by first | exact Or.inl rfl | exact Or.inr rfl) (pe_tup (pa_cons pe_str (pa_cons (pv 5) (pa_cons pe_str (pa_cons (pe_tup (pa_cons (pe_tup (pa_cons pe_str (pa_cons (C8.pe_c c__law_name hr (by omega) (by rfl) (pa_cons (pv 1) (pa_cons (pe_op op_sub pe_int (pv 4)) pa_nil))) pa_nil))) pa_nil)) pa_nil))))))
      (pss_cons (ps_set (i := 7) sc_g_deep_program.nd rfl (by first | exact Or.inl rfl | exact Or.inr rfl) (pe_tup (pa_cons pe_str (pa_cons (pe_tup (pa_cons pe_str (pa_cons (pv 5) pa_nil))) (pa_cons (pv 3) (pa_cons (pe_tup (pa_cons (pe_tup pa_nil) (pa_cons (pe_tup (pa_cons pe_str (pa_cons (C8.pe_c c__law_word hr (by omega) (by rfl) (pa_cons (pv 0) pa_nil)) pa_nil))) pa_nil))) pa_nil))))))
      (pss_cons (ps_if (pt_cmpR op_eq (pe_op op_and (pe_op op_shr (pv 2) (pv 4)) pe_int) pe_int (nomark _)) (pss_one (ps_set (i := 7) sc_g_deep_program.nd rfl (by first | exact Or.inl rfl | exact Or.inr rfl) (pe_tup (pa_cons pe_str (pa_cons (pe_tup (pa_cons pe_str (pa_cons (pv 5) pa_nil))) (pa_cons (pe_tup (pa_cons (pe_tup pa_nil) (pa_cons (pe_tup (pa_cons pe_str (pa_cons (pe_tup (pa_cons pe_str (pa_cons (pv 4) pa_nil))) pa_nil))) pa_nil))) (pa_cons (pv 3) pa_nil))))))) pss_nil)
      (pss_one (ps_set (i := 3) sc_g_deep_program.nd rfl (by first | exact Or.inl rfl | exact Or.inr rfl) (pe_tup (pa_cons (pe_tup (pa_cons (pv 6) pa_nil)) (pa_cons (pv 7) pa_nil))))))))))
      (pss_one (ps_ret (pe_tup (pa_cons (pe_tup (pa_cons (C8.pe_c c__law_name hr (by omega) (by rfl) (pa_cons (pv 2) (pa_cons pe_int pa_nil))) (pa_cons (pe_tup (pa_cons (C8.pe_c c__law_name hr (by omega) (by rfl) (pa_cons (pv 1) (pa_cons pe_int pa_nil))) pa_nil)) (pa_cons (pv 3) pa_nil)))) pa_nil)))))))), ?_⟩
  unfold gDeep at k
  simp only [] at k
  refine ⟨_, rfl, a, l, 1000000007, rfl, ha, by decide, fun H1 f1 h1 => ?_⟩
  generalize hc : (gNext l 1000000007).1 = c at *
  generalize hl1 : (gNext l 1000000007).2 = l1 at *
  refine ⟨_, rfl, a, l1, 256, rfl, h1, by decide, fun H2 f2 h2 => ?_⟩
  generalize hs : (gNext l1 256).1 = bits at *
  generalize hl2 : (gNext l1 256).2 = l2 at *
  have f12 : Fr [a] H H2 := f1.trans f2
  refine ⟨sl0, fun p0 hp0 => ⟨_, rfl, c, 8, rfl, by decide, fun H3 f3 => ⟨sl2, fun p1 hp1 => ⟨sl2, fun p2 hp2 => ⟨sl2, fun p3 hp3 => ?_⟩⟩⟩⟩⟩
  have q0 := rep_new hp0 RepL.nil
  have q1 := rep_new hp1 (.cons (.str (x := "of")) (.one (.str (x := gName c 8))))
  have q2 := rep_new hp2 (.cons (.str (x := "give")) (.one q1))
  have q3 := rep_new hp3 (.cons (((q0.mono f3.imm0).new hp1).new hp2) (.one q2))
  have fy : ∀ o, Fr [] H2 (upd _ p3 o) := fun o => (Fr.new hp0).trans (f3.trans ((Fr.new hp1).trans ((Fr.new hp2).trans (Fr.new hp3))))
  refine ⟨8, rfl, by decide, by decide, ?_⟩
  refine for_range (lo := 0) (n := 8) (fun i σ H4 => ∃ vk vn vs ve vb, σ = [some (V.ref a), some (V.int c), some (V.int bits), some vb, vk, vn, vs, ve] ∧ LI H4 a (gDeepB c bits i l2).2 ∧ Fr [a] H H4 ∧ Rep H4 (gDeepB c bits i l2).1.d vb)
    ⟨none, none, none, none, _, rfl, (fy _).at h2, f12.trans (Fr.mono (fy _) (by simp)), q3⟩ ?_ ?_
  · rintro i σ H4 hi ⟨vk, vn, vs, ve, vb, rfl, g1, g2, g3⟩
    have ed : gDeepB c bits (i + 1) l2 = (if Builtin.bitAnd (bits / 2 ^ i) 1 = 1 then .iff [.let_ (gName c (8 - i)) "down" [.of (gName c (7 - i))]] (.of (gName c (8 - i))) (.leaf [] (.give (.is (.int (i : Int))))) (gDeepB c bits i l2).1
     else .iff [.let_ (gName c (8 - i)) "down" [.of (gName c (7 - i))]] (.of (gName c (8 - i))) (gDeepB c bits i l2).1 (.leaf [] (.fail (gWord (gDeepB c bits i l2).2).1)), (gWord (gDeepB c bits i l2).2).2) := rfl
    rw [ed]
    generalize (gDeepB c bits i l2).1 = bk at *
    generalize (gDeepB c bits i l2).2 = l3 at *
    refine ⟨_, rfl, _, rfl, _, _, rfl, rfl, ?_⟩
    rw [Int.zero_add]
    refine ⟨c, 8 - i, congrArg (fun z => [V.int c, V.int z]) (by omega), by omega, fun H5 f5 => ?_⟩
    refine ⟨_, rfl, _, rfl, _, rfl, _, _, rfl, rfl, c, 7 - i, congrArg (fun z => [V.int c, V.int z]) (by omega), by omega, fun H6 f6 => ⟨sl2, fun p1 hp1 => ⟨sl1, fun p2 hp2 => ⟨sl4, fun p3 hp3 => ?_⟩⟩⟩⟩
    have r1 := rep_new hp1 (.cons (.str (x := "of")) (.one (.str (x := gName c (7 - i)))))
    have r2 := rep_new hp2 (.one r1)
    have r3 := rep_new hp3 (.cons (.str (x := "let")) (.cons (.str (x := gName c (8 - i))) (.cons (.str (x := "down")) (.one r2))))
    have fa := fun o => f5.trans (f6.trans ((Fr.new hp1).trans ((Fr.new hp2).trans (Fr.new (S := []) (o := o) hp3))))
    have rb := fun o => g3.mono (fa o).imm0
    have ga := fun o => (fa o).at g1
    replace fa := fa (.tup [.str "let", .str (gName c (8 - i)), .str "down", .ref p2])
    replace rb := rb (.tup [.str "let", .str (gName c (8 - i)), .str "down", .ref p2])
    replace ga := ga (.tup [.str "let", .str (gName c (8 - i)), .str "down", .ref p2])
    generalize upd (upd (upd H6 p1 _) p2 _) p3 _ = H7 at *
    refine ⟨_, rfl, sl2, fun p4 hp4 => ⟨_, rfl, sl0, fun p5 hp5 => ⟨_, rfl, a, l3, rfl, LI.new (LI.new ga hp4) hp5, fun H8 f8 h8 => ⟨sl2, fun p6 hp6 => ⟨sl2, fun p7 hp7 => ⟨sl4, fun p8 hp8 => ?_⟩⟩⟩⟩⟩⟩
    have i8 : Imm (upd (upd H7 p4 (.tup [V.str "of", V.str (gName c (8 - i))])) p5 (.tup [])) H8 := f8.imm1 (LI.new (LI.new ga hp4) hp5)
    have r4 := ((rep_new hp4 (.cons (.str (x := "of")) (.one (.str (x := gName c (8 - i)))))).new hp5).mono i8
    have r5 := (rep_new hp5 RepL.nil).mono i8
    have r6 := rep_new hp6 (.cons (.str (x := "fail")) (.one (.str (x := (gWord l3).1))))
    have r7 := rep_new hp7 (.cons (r5.new hp6) (.one r6))
    have rb8 := Rep.new (o := .tup [.ref p5, .ref p6]) ((((rb.new hp4).new hp5).mono i8).new hp6) hp7
    have r8 := rep_new hp8 (.cons (.str (x := "if")) (.cons ((r4.new hp6).new hp7) (.cons rb8 (.one r7))))
    have r38 := ((((r3.new hp4).new hp5).mono i8).new hp6 |>.new hp7 |>.new (o := .tup [.str "if", .ref p4, vb, .ref p7]) hp8)
    have rbb := rb8.new (o := .tup [.str "if", .ref p4, vb, .ref p7]) hp8
    have fb := fun o => (Fr.new (S := [a]) hp4).trans ((Fr.new hp5).trans (f8.trans ((Fr.new hp6).trans ((Fr.new hp7).trans (Fr.new (o := o) hp8)))))
    have h9 := LI.new (o := .tup [.str "if", .ref p4, vb, .ref p7]) (LI.new (LI.new h8 hp6) hp7) hp8
    have g29 := g2.trans ((Fr.mono fa (by simp)).trans (fb (.tup [.str "if", .ref p4, vb, .ref p7])))
    generalize upd (upd (upd H8 p6 _) p7 _) p8 _ = H9 at *
    refine ⟨_, rfl, _, rfl, _, _, rfl, rfl, (by show (0 : Int) ≤ (i : Int); omega), _, _, rfl, rfl, rfl, _, rfl, ifI (fun q => ?_) fun q => ?_⟩
    · have q' : Builtin.bitAnd (bits / 2 ^ i) 1 = 1 := q
      rw [if_pos q']
      refine ⟨_, rfl, sl2, fun p9 hp9 => ⟨sl0, fun p10 hp10 => ⟨_, rfl, sl2, fun p11 hp11 => ⟨sl2, fun p12 hp12 => ⟨sl2, fun p13 hp13 => ⟨_, rfl, sl4, fun p14 hp14 => ⟨_, rfl, sl1, fun p15 hp15 => ⟨_, rfl, sl2, fun p16 hp16 => ?_⟩⟩⟩⟩⟩⟩⟩⟩
      have r9 := rep_new hp9 (.cons (.str (x := "of")) (.one (.str (x := gName c (8 - i)))))
      have r10 := rep_new hp10 RepL.nil
      have r11 := rep_new hp11 (.cons (.str (x := "is")) (.one (.int (i := (i : Int)))))
      have r12 := rep_new hp12 (.cons (.str (x := "give")) (.one r11))
      have r13 := rep_new hp13 (.cons ((r10.new hp11).new hp12) (.one r12))
      have r14 := rep_new hp14 (.cons (.str (x := "if")) (.cons ((((r9.new hp10).new hp11).new hp12).new hp13) (.cons r13 (.one (((((rbb.new hp9).new hp10).new hp11).new hp12).new hp13)))))
      have r15 := rep_new hp15 (.one ((((((r38.new hp9).new hp10).new hp11).new hp12).new hp13).new hp14))
      have r16 := rep_new hp16 (.cons r15 (.one (r14.new hp15)))
      have fc := fun o => (Fr.new (S := []) hp9).trans ((Fr.new hp10).trans ((Fr.new hp11).trans ((Fr.new hp12).trans ((Fr.new hp13).trans ((Fr.new hp14).trans ((Fr.new hp15).trans (Fr.new (o := o) hp16)))))))
      exact ⟨_, _, _, _, _, rfl, (fc _).at h9, g29.trans (Fr.mono (fc _) (by simp)), r16⟩
    · have q' : ¬ Builtin.bitAnd (bits / 2 ^ i) 1 = 1 := q
      rw [if_neg q']
      refine ⟨_, rfl, sl1, fun p15 hp15 => ⟨_, rfl, sl2, fun p16 hp16 => ?_⟩⟩
      have r15 := rep_new hp15 (.one r38)
      have r16 := rep_new hp16 (.cons r15 (.one (r8.new hp15)))
      have fc := fun o => (Fr.new (S := []) hp15).trans (Fr.new (o := o) hp16)
      exact ⟨_, _, _, _, _, rfl, (fc _).at h9, g29.trans (Fr.mono (fc _) (by simp)), r16⟩
  rintro σ H4 ⟨vk, vn, vs, ve, vb, rfl, g1, g2, g3⟩
  refine ⟨_, rfl, bits, 0, rfl, by decide, fun H5 f5 => ⟨_, rfl, c, 0, rfl, by decide, fun H6 f6 => ⟨sl1, fun p1 hp1 => ⟨_, rfl, sl3, fun p2 hp2 => ⟨sl1, fun p3 hp3 => ?_⟩⟩⟩⟩⟩
  have r1 := rep_new hp1 (.one (.str (x := gName c 0)))
  have r2 := rep_new hp2 (.cons (.str (x := gName bits 0)) (.cons r1 (.one (((g3.mono f5.imm0).mono f6.imm0).new hp1))))
  have r3 := rep_new hp3 (.one r2)
  have fz := fun o => f5.trans (f6.trans ((Fr.new hp1).trans ((Fr.new hp2).trans (Fr.new (o := o) hp3))))
  exact k _ _ (g2.trans (Fr.mono (fz _) (by simp))) ((fz _).at g1) r3
theorem sc_g_long_program : FnScope ["_law_deck_here", "_law_cell", "_law_step_here", "_law_many", "_law_program_here", "_law_k"] ["_law_deck_here"] (defScope s_g_long_program) := C8.fnScope_by (by decide +kernel)
theorem ok_long_program (T : TX K mg) : C8.Cal P w K mg base 3 "_law_long_program" (spProg gLong) [] := by
  have c__law_next : C8.Cal P w K mg base 1 "_law_next" spNext [] := ok_next T
  have c__law_name : C8.Cal P w K mg base 2 "_law_name" (spName gName) [] := ok_name T
  refine cal_of T.f_g_long_program T.g__law_long_program sc_g_long_program (fun _ _ _ _ _ _ us hl => match us, hl with | [_], _ => rfl) (fun vs H Q E h => ?_) (fun cdv A outer s H vs Q E hr h => ?_)
  · obtain ⟨a, l, rfl, _⟩ := h
    rfl
  obtain ⟨a, l, rfl, ha, k⟩ := h
  refine ⟨_, (pss_cons (ps_set (i := 1) sc_g_long_program.nd rfl (by first | exact Or.inl rfl | exact Or.inr rfl) (C8.pe_c c__law_next hr (by omega) (by rfl) (pa_cons (pv 0) (pa_cons pe_int pa_nil))))
      (pss_cons (ps_set (i := 2) sc_g_long_program.nd rfl (by first | exact Or.inl rfl | exact Or.inr rfl) (pe_op op_add pe_int (pe_op op_mul pe_int (C8.pe_c c__law_next hr (by omega) (by rfl) (pa_cons (pv 0) (pa_cons pe_int pa_nil))))))
      (pss_cons (ps_set (i := 3) sc_g_long_program.nd rfl (by first | exact Or.inl rfl | exact Or.inr rfl) (pe_ix (r := rIxL K) ix_list (pe_lst (pa_cons pe_int (pa_cons pe_int (pa_cons pe_int pa_nil)))) (pe_op op_mod (pv 2) pe_int) (fun _ _ => rfl)))
      (pss_cons (ps_set (i := 4) sc_g_long_program.nd rfl (by first | exact Or.inl rfl | exact Or.inr rfl) (pe_lst pa_nil))
      (pss_cons (ps_for PassesOwn.never rfl (pi_range1 (by rfl) T.z_range (pa_cons (pv 3) pa_nil)) (pg_name (i := 5) sc_g_long_program.nd rfl (by first | exact Or.inl rfl | exact Or.inr rfl))
        (pss_one (ps_expr (pe_bm PySem.F.plainAttrs_list PySem.F.slot_list_append PySem.F.type_list_append mt_append (pv 4) (pa_cons (pe_tup (pa_cons (C8.pe_c c__law_name hr (by omega) (by rfl) (pa_cons (pv 1) (pa_cons (pv 5) pa_nil))) (pa_cons (pe_tup pa_nil) (pa_cons (pe_tup (pa_cons (pe_tup pa_nil) (pa_cons (pe_tup (pa_cons pe_str (pa_cons (C8.pe_c c__law_name hr (by omega) (by rfl) (pa_cons (pv 1) (pa_cons (pe_op op_mod (pe_op op_add (pe_op op_mul (pv 5) (pv 2)) pe_int) (pv 3)) pa_nil))) (pa_cons (pe_tup pa_nil) pa_nil)))) pa_nil))) pa_nil)))) pa_nil)))))
      (pss_one (ps_ret (pe_callTy call_tuple_of (by rfl) T.z_tuple (by decide +kernel) (pa_cons (pv 4) pa_nil))))))))), ?_⟩
  unfold gLong at k
  simp only [] at k
  refine ⟨_, rfl, a, l, 1000000007, rfl, ha, by decide, fun H1 f1 h1 => ?_⟩
  generalize hc : (gNext l 1000000007).1 = c at *
  generalize hl1 : (gNext l 1000000007).2 = l1 at *
  have slo := gNext_lo l1 (show (0 : Int) < 100 by decide)
  have shi := gNext_hi l1 (show (0 : Int) < 100 by decide)
  refine ⟨_, rfl, a, l1, 100, rfl, h1, by decide, fun H2 f2 h2 => ?_⟩
  generalize hs : (gNext l1 100).1 = s0 at *
  generalize hl2 : (gNext l1 100).2 = l2 at *
  refine ⟨_, _, rfl, rfl, .inl ⟨by decide, by decide⟩, _, _, rfl, rfl, ?_⟩
  have f12 : Fr [a] H H2 := f1.trans f2
  have b0 : 0 ≤ 1 + 2 * s0 := by omega
  have b1 : 1 + 2 * s0 < 1000 := by omega
  refine ⟨sl3, fun p hp => ?_⟩
  have m59 : 1 ≤ longMany (1 + 2 * s0) ∧ longMany (1 + 2 * s0) ≤ 200 := longMany_le (1 + 2 * s0)
  have hm : atI (([200, 200, 137].map Int.ofNat).map V.int) ((1 + 2 * s0) % 3) = some (.int ((longMany (1 + 2 * s0) : Nat) : Int)) := atI_natInts (emod_lo _ (by decide)) (by have := emod_hi (1 + 2 * s0) (show (0 : Int) < 3 by decide); exact this)
  generalize hlm : longMany (1 + 2 * s0) = n at *
  refine ⟨_, rfl, _, _, rfl, rfl, (by show (0 : Int) < 3; decide), p, _, _, _, rfl, rfl, SqL.of upd_same, hm, sl0, fun r hr0 => ?_⟩
  have f3 : Fr [a] H (upd (upd H2 p (.lst [V.int 200, V.int 200, V.int 137])) r (.lst [])) := f12.trans ((Fr.new hp).trans (Fr.new hr0))
  have h3 : LI (upd (upd H2 p (.lst [V.int 200, V.int 200, V.int 137])) r (.lst [])) a l2 := (LI.new (LI.new h2 hp) hr0)
  have nra : r ≠ a := fun z => by rw [z, LI.new h2 hp] at hr0; cases hr0
  have hr00 : H r = none := (f12.trans (Fr.new hp)).free hr0 (by simp; exact nra)
  have g0 : (upd (upd H2 p (.lst [V.int 200, V.int 200, V.int 137])) r (.lst [])) r = some (.lst []) := upd_same
  generalize upd (upd H2 p (.lst [V.int 200, V.int 200, V.int 137])) r (.lst []) = H3 at *
  refine ⟨_, rfl, (n : Int), rfl, by omega, by omega, ?_⟩
  refine for_range (lo := 0) (n := n) (fun i σ H4 => ∃ vk xs, σ = [some (V.ref a), some (V.int c), some (V.int (1 + 2 * s0)), some (V.int (n : Int)), some (V.ref r), vk] ∧ LI H4 a l2 ∧ Fr [a] H H4 ∧ H4 r = some (.lst xs) ∧ RepL H4 (((List.range i).map (longFn c (1 + 2 * s0) n)).map Fn.d) xs)
    ⟨none, [], rfl, h3, f3, g0, RepL.nil⟩ ?_ ?_
  · rintro i σ H4 hi ⟨vk, xs, rfl, g1, g2, g3, g4⟩
    have xl : xs.length = i := by rw [g4.length, List.length_map, List.length_map, List.length_range]
    refine ⟨_, rfl, .inl ⟨rfl, _, SqL.of g3⟩, _, rfl, _, rfl, ?_⟩
    rw [Int.zero_add]
    refine ⟨c, i, rfl, by omega, fun H5 f5 => ⟨sl0, fun p1 hp1 => ⟨sl0, fun p2 hp2 => ⟨_, rfl, _, rfl, _, rfl, _, _, rfl, rfl, .inl ⟨by omega, by omega⟩, _, _, rfl, rfl, _, rfl, _, _, rfl, rfl, (by show (0 : Int) < (n : Int); omega), ?_⟩⟩⟩⟩
    have e0 := emod_lo ((i : Int) * (1 + 2 * s0) + 1) (show (0 : Int) < (n : Int) by omega)
    have e1 := emod_hi ((i : Int) * (1 + 2 * s0) + 1) (show (0 : Int) < (n : Int) by omega)
    refine ⟨c, (((i : Int) * (1 + 2 * s0) + 1) % (n : Int)).toNat, by rw [Int.toNat_of_nonneg e0]; rfl, by omega, fun H6 f6 => ⟨sl0, fun p3 hp3 => ⟨sl3, fun p4 hp4 => ⟨sl2, fun p5 hp5 => ⟨sl3, fun p6 hp6 => ?_⟩⟩⟩⟩⟩
    have r1 := ((rep_new hp1 RepL.nil).new (o := .tup []) hp2).mono f6.imm0
    have r2 := (rep_new hp2 RepL.nil).mono f6.imm0
    have r3 := rep_new hp3 RepL.nil
    have r4 := rep_new hp4 (.cons (.str (x := "go")) (.cons (.str (x := gName c (((i : Int) * (1 + 2 * s0) + 1) % (n : Int)).toNat)) (.one r3)))
    have r5 := rep_new hp5 (.cons ((r2.new hp3).new hp4) (.one r4))
    have r6 := rep_new hp6 (.cons (.str (x := gName c i)) (.cons (((r1.new hp3).new hp4).new hp5) (.one r5)))
    have fz := fun o => f5.trans ((Fr.new hp1).trans ((Fr.new hp2).trans (f6.trans ((Fr.new hp3).trans ((Fr.new hp4).trans ((Fr.new hp5).trans (Fr.new (o := o) hp6)))))))
    have k4 := fun o => (fz o).at g3
    refine ⟨r, _, _, rfl, rfl, k4 _, by rw [xl]; exact sl_lt (by omega), _, _, rfl, LI.keep ((fz _).at g1) nra.symm, (g2.trans (Fr.mono (fz _) (by simp))).put_new hr00, upd_same, ?_⟩
    rw [List.range_succ, List.map_append, List.map_append]
    exact ((g4.mono (fz _).imm0).snoc r6).mono (imm_upd (soft_lst (k4 _)))
  rintro σ H4 ⟨vk, xs, rfl, g1, g2, g3, g4⟩
  exact ⟨_, rfl, r, _, rfl, .inl ⟨SqL.of g3, fun t ht => k _ _ (g2.trans (Fr.new ht)) (LI.new g1 ht) (rep_new ht g4)⟩⟩
end
end FK
/-! FKV -/
set_option maxHeartbeats 400000
namespace FK
open PySem PySem.Spec PyProof.Rows L2 HT
/-! ### t[::-1] of a tuple -/
theorem rev_adjust (n : Nat) : Builtin.Slice.sliceAdjust none none (-1) (n : Int) = ((n : Int) - 1, -1) := by
  unfold Builtin.Slice.sliceAdjust
  simp
theorem rev_places (n : Nat) : Builtin.Slice.slicePlaces ((n : Int) - 1) (-1) (-1) = n := by
  unfold Builtin.Slice.slicePlaces
  have h1 : ¬ ((-1 : Int) > 0) := by decide
  simp only [h1, if_false]
  rw [show (- -1 : Int) = 1 by decide, Int.ediv_one]
  split <;> omega
theorem rev_pick (xs : Array Value) : ((List.range xs.size).filterMap fun (m : Nat) => xs[(((xs.size : Int) - 1) + (m : Int) * (-1)).toNat]?).toArray = xs.toList.reverse.toArray := by
  have e : ((List.range xs.size).filterMap fun (m : Nat) => xs[(((xs.size : Int) - 1) + (m : Int) * (-1)).toNat]?) = ((List.range xs.size).map (fun k => xs.size - 1 - k)).filterMap (xs[·]?) := by
    rw [List.filterMap_map]
    have e2 : (fun (m : Nat) => xs[(((xs.size : Int) - 1) + (m : Int) * (-1)).toNat]?) = ((fun x => xs[x]?) ∘ fun k => xs.size - 1 - k) := funext fun m => by
      have e3 : (((xs.size : Int) - 1) + (m : Int) * (-1)).toNat = xs.size - 1 - m := by omega
      rw [e3]
      rfl
    rw [e2]
  rw [e, PySem.W.krv_range, List.filterMap_reverse, PySem.W.krv_all]
section
variable {prog : Program} {w : World} {A : Around} {E : Value → Shared → Prop} {s : Shared}
theorem sliceApplied_rev {sl : Addr} {t : Tok} {n : Nat} {Q : Int × Int × Nat → Shared → Prop} (hs : s.heap.IsSliceOf sl .none .none (.int (-1) t))
    (h : Q ((n : Int) - 1, -1, n) s) : wpAny (model prog w) A (Builtin.Slice.sliceApplied (.ref sl) (pure (n : Int))) Q E s := by
  obtain ⟨os, hos, hcs, hds⟩ := id hs
  unfold Builtin.Slice.sliceApplied Builtin.Slice.sliceFields
  refine wpAny_bind (wpAny_bind (wpAny_field hos hds (x := .none) rfl (wpAny_bind (wpAny_field hos hds (x := .none) rfl (wpAny_bind (wpAny_field hos hds (x := .int (-1) t) rfl (wpAny_pure ?_)))))))
  refine wpAny_bind (slicePart_ (.int (-1) t) ?_)
  show wpAny _ _ (if ((-1 : Int) == 0) = true then _ else _) _ _ s
  rw [if_neg (by decide)]
  refine wpAny_bind (slicePart_ .none (wpAny_bind (slicePart_ .none (wpAny_bind (wpAny_pure ?_)))))
  show wpAny _ _ (match Builtin.Slice.sliceAdjust none none (-1) (n : Int) with | (lo, hi) => pure (lo, (-1 : Int), Builtin.Slice.slicePlaces lo hi (-1))) _ _ s
  rw [rev_adjust n]
  show wpAny _ _ (pure ((n : Int) - 1, (-1 : Int), Builtin.Slice.slicePlaces ((n : Int) - 1) (-1) (-1))) _ _ s
  rw [rev_places]
  exact wpAny_pure h
theorem getItem_tuple_rev {t sl : Addr} {items : Array Value} {k : Tok} {Q : Value → Shared → Prop} (ht : IsTup s.heap t items) (hs : s.heap.IsSliceOf sl .none .none (.int (-1) k))
    (h : Q (.ref s.heap.objs.size) { s with heap := s.heap.push { cls := .type "tuple", data := .seq items.toList.reverse.toArray } })
    (hsz : items.size ≤ sizeLine) : wpAny (model prog w) A (getItem (.ref t) (.ref sl)) Q E s := by
  have htake : sizeOk (.seq items.toList.reverse.toArray) := by
    show items.toList.reverse.toArray.size ≤ sizeLine
    rw [List.size_toArray, List.length_reverse, Array.length_toList]
    exact hsz
  obtain ⟨os, hos, hcs, hds⟩ := id hs
  have hTs : s.TypeIs (.ref sl) "slice" := ⟨os, hos, hcs⟩
  unfold getItem
  try with_reducible refine wpAny_holding ?_
  first | refine wpAny_bind (wpAny_pure ?_) | skip
  refine wpAny_bind (wpAny_sequenceKey ht.typeIs (by decide) ?_)
  refine wpAny_bind (wpAny_callSpecial?_slot (name := Str.ofString "__getitem__") ht.typeIs PyProof.Rows.slot_tuple_getitem
    (wpAny_call_entry PyProof.Rows.slot_tuple_getitem ht.typeIs entry_tuple_getitem ?_ (args_tuple_getitem _ _)))
  show wpAny _ _ (Builtin.Tuple.tupleItemsOf (.ref t) >>= _) _ _ s
  refine wpAny_bind (tupleItemsOf_ ht ?_)
  refine wpAny_bind (wpAny_typeOf hTs ?_)
  rw [if_pos (by decide)]
  refine wpAny_bind (sliceApplied_rev hs ?_)
  have hno : ¬ ((((items.size : Int) - 1) == 0 && (-1 : Int) == 1 && items.size == items.size) = true) := by
    have z : ((-1 : Int) == 1) = false := by decide
    rw [z, Bool.and_false, Bool.false_and]
    exact Bool.false_ne_true
  show wpAny _ _ (if (((items.size : Int) - 1) == 0 && (-1 : Int) == 1 && items.size == items.size) = true then _ else _) _ _ s
  rw [if_neg hno, rev_pick]
  first
    | exact wpAny_bind (m := Builtin.Tuple.tupleExact _) (wpAny_newObj_type (wpAny_pure ⟨_, rfl, wpAny_pure h⟩) htake)
    | exact wpAny_bind (m := Builtin.Tuple.tupleExact _) (wpAny_newObj_type (wpAny_bind (wpAny_pure (wpAny_pure ⟨_, rfl, wpAny_pure h⟩))) htake)
    | exact wpAny_bind (wpAny_bind (m := Builtin.Tuple.tupleExact _) (wpAny_newObj_type (wpAny_pure (wpAny_pure ⟨_, rfl, wpAny_pure h⟩)) htake))
    | exact wpAny_bind (wpAny_bind (m := Builtin.Tuple.tupleExact _) (wpAny_newObj_type (wpAny_pure ⟨_, rfl, wpAny_pure h⟩) htake))
end
section
variable {X : Cx}
def tRevT (K : PySem.W.Frag) (te : TE) : TE := fun σ H Q => te σ H fun x H1 => ∃ a xs, x = .ref a ∧ SqT K H1 a xs ∧ ∀ p, H1 p = none → Q (.ref p) (upd H1 p (.tup xs.reverse))
theorem pe_revT {e : Expr} {te : TE} {k : Nat} {p1 p2 p3 pos : Pos} (he : PE X e te) : PE X (.Subscript e (.Slice none none (some (.UnaryOp .USub (.Constant (.int 1) k p1) p2)) p3) pos) (tRevT X.K te) := by
  refine ⟨fun pins s σ H Q I h => ?_⟩
  refine Subscript_ (thn (he.run pins s σ H _ I h) fun v s1 ⟨x, H1, I1, r1, q1⟩ => ?_)
  obtain ⟨a, xs, ex, hx, q⟩ := q1
  subst ex
  cases r1
  have hst : PO X (some (.UnaryOp .USub (.Constant (.int 1) k p1) p2)) (tPart (tUn (rU fun i => .int (-i)) (tC (.int 1)))) := po_some (pe_un un_neg pe_int)
  refine wpAny_Slice (thn (po_none.run pins s1 σ H1 (fun o H2 => o = none ∧ H2 = H1) I1 ⟨rfl, rfl⟩) fun vl s2 ⟨l, H2, I2, pl, el, e2⟩ => ?_)
  subst el e2
  refine thn (po_none.run pins s2 σ H2 (fun o H3 => o = none ∧ H3 = H2) I2 ⟨rfl, rfl⟩) fun vu s3 ⟨u, H3, I3, pu, eu, e3⟩ => ?_
  subst eu e3
  refine thn (hst.run pins s3 σ H3 (fun o H4 => o = some (-1) ∧ H4 = H3) I3 ⟨1, rfl, -1, rfl, rfl, rfl⟩) fun vs s4 ⟨o, H4, I4, ps, eo, e4⟩ => ?_
  subst eo e4
  cases pl
  cases pu
  obtain ⟨tk, rfl⟩ : ∃ tk, vs = .int (-1) tk := by
    cases ps
    exact ⟨_, rfl⟩
  have I5 : Inv X pins σ H4 { s4 with heap := s4.heap.push { cls := .type "slice", data := .fields #[.none, .none, .int (-1) tk] } } := I4.kept (t' := s4.toks) fun b ob q => Heap.get?_push_of_some _ q
  obtain ⟨its, r, ht, hz⟩ := I5.tuple hx
  have hlen := r.length
  show wpAny (model X.prog X.w) X.A (subscriptTail e (.Slice none none (some (.UnaryOp .USub (.Constant (.int 1) k p1) p2)) p3) (.ref a) (.ref s4.heap.objs.size)) (EP X pins σ Q) X.xe { s4 with heap := s4.heap.push { cls := .type "slice", data := .fields #[.none, .none, .int (-1) tk] } }
  refine tail_any (ops := [.ref a, .ref s4.heap.objs.size]) ht.typeIs (PyProof.Rows.slot_tuple_getitem.lookup) ?_ (by with_unfolding_all rfl)
  refine getItem_tuple_rev ht (Heap.IsSliceOf.new _ .none .none (.int (-1) tk)) ?_ (by rw [List.size_toArray]; omega)
  refine ⟨.ref _, _, I5.laid (t' := s4.toks) (o := .tup xs.reverse) (fun b ob q => Heap.get?_push_of_some _ q) (Nat.le_refl _) ?_, rfl, q _ (I5.hok.fresh (Nat.le_refl _))⟩
  exact ⟨by rw [List.length_reverse]; exact hz, _, r.reverse, IsTup.new _ _⟩
end
end FK
/-! FKG10 -/
set_option maxHeartbeats 400000
namespace FK
open PySem PySem.Spec PyProof.Rows L2
open TL (tl)
/-! ### a wide program -/
def wideOf (c : Int) : List Atom := (namesOf c 6).reverse.map .of
def gWide (l : List Int) : Prog × List Int :=
  let c := gNext l 1000000007
  let v := gLarge c.2
  ([⟨gName c.1 0, namesOf c.1 6, .leaf [.call (gName c.1 6) (gName c.1 0) (wideOf c.1), .let_ (gName c.1 7) "set" ([.is v.1] ++ (wideOf c.1).take 2)] (.go (gName c.1 0) ([.is v.1, .of (gName c.1 6)] ++ (wideOf c.1).drop 2))⟩], v.2)
theorem takeG {α : Type} {l : List α} {i : Nat} {x : α} (h : l[i]? = some x) : l.take (i + 1) = l.take i ++ [x] := by
  rw [List.take_add_one, h]
  rfl
theorem names6 (c : Int) : atI ((namesOf c 6).map V.str) 0 = some (.str (gName c 0)) := rfl
section
variable {P : Program} {w : World} {K : PySem.W.Frag} {mg : Str → Option Value} {base : Heap}
theorem sc_g_wide_program : FnScope ["_law_deck_here", "_law_cell", "_law_params", "_law_value_here", "_law_turned", "_law_name_here", "_law_steps", "_law_atoms_here", "_law_k", "_law_param"] ["_law_deck_here"] (defScope s_g_wide_program) := C8.fnScope_by (by decide +kernel)
theorem ok_wide_program (T : TX K mg) : C8.Cal P w K mg base 4 "_law_wide_program" (spProg gWide) [] := by
  have c__law_next : C8.Cal P w K mg base 1 "_law_next" spNext [] := ok_next T
  have c__law_name : C8.Cal P w K mg base 2 "_law_name" (spName gName) [] := ok_name T
  have c__law_large : C8.Cal P w K mg base 3 "_law_large" spLarge [] := ok_large T
  refine cal_of T.f_g_wide_program T.g__law_wide_program sc_g_wide_program (fun _ _ _ _ _ _ us hl => match us, hl with | [_], _ => rfl) (fun vs H Q E h => ?_) (fun cdv A outer s H vs Q E hr h => ?_)
  · obtain ⟨a, l, rfl, _⟩ := h
    rfl
  obtain ⟨a, l, rfl, ha, k⟩ := h
  refine ⟨_, (pss_cons (ps_set (i := 1) sc_g_wide_program.nd rfl (by first | exact Or.inl rfl | exact Or.inr rfl) (C8.pe_c c__law_next hr (by omega) (by rfl) (pa_cons (pv 0) (pa_cons pe_int pa_nil))))
      (pss_cons (ps_set (i := 2) sc_g_wide_program.nd rfl (by first | exact Or.inl rfl | exact Or.inr rfl) (pe_callTy call_tuple_of (by rfl) T.z_tuple (by decide +kernel) (pa_cons (pe_lc (own := [("_law_k", 8)]) (by rfl) sc_g_wide_program.nd (pi_range1 (by rfl) T.z_range (pa_cons pe_int pa_nil)) (blkOk_by (own := [("_law_k", 8)]) (N := ["_law_deck_here", "_law_cell", "_law_params", "_law_value_here", "_law_turned", "_law_name_here", "_law_steps", "_law_atoms_here", "_law_k", "_law_param"]) (sc := defScope s_g_wide_program) (by decide +kernel)) (fun _ _ _ _ _ => (pg_name (i := 8) sc_g_wide_program.nd rfl (by first | exact Or.inl rfl | exact Or.inr rfl))) (fun _ _ _ _ _ => pts_nil) (fun _ _ _ _ _ => (C8.pe_c c__law_name hr (by omega) (by rfl) (pa_cons (pv 1) (pa_cons (pv 8) pa_nil))))) pa_nil)))
      (pss_cons (ps_set (i := 3) sc_g_wide_program.nd rfl (by first | exact Or.inl rfl | exact Or.inr rfl) (C8.pe_c c__law_large hr (by omega) (by rfl) (pa_cons (pv 0) pa_nil)))
      (pss_cons (ps_set (i := 4) sc_g_wide_program.nd rfl (by first | exact Or.inl rfl | exact Or.inr rfl) (pe_callTy call_tuple_of (by rfl) T.z_tuple (by decide +kernel) (pa_cons (pe_lc (own := [("_law_param", 9)]) (by rfl) sc_g_wide_program.nd (pi_tup (pe_revT (pv 2))) (blkOk_by (own := [("_law_param", 9)]) (N := ["_law_deck_here", "_law_cell", "_law_params", "_law_value_here", "_law_turned", "_law_name_here", "_law_steps", "_law_atoms_here", "_law_k", "_law_param"]) (sc := defScope s_g_wide_program) (by decide +kernel)) (fun _ _ _ _ _ => (pg_name (i := 9) sc_g_wide_program.nd rfl (by first | exact Or.inl rfl | exact Or.inr rfl))) (fun _ _ _ _ _ => pts_nil) (fun _ _ _ _ _ => (pe_tup (pa_cons pe_str (pa_cons (pv 9) pa_nil))))) pa_nil)))
      (pss_cons (ps_set (i := 5) sc_g_wide_program.nd rfl (by first | exact Or.inl rfl | exact Or.inr rfl) (C8.pe_c c__law_name hr (by omega) (by rfl) (pa_cons (pv 1) (pa_cons pe_int pa_nil))))
      (pss_cons (ps_set (i := 6) sc_g_wide_program.nd rfl (by first | exact Or.inl rfl | exact Or.inr rfl) (pe_tup (pa_cons (pe_tup (pa_cons pe_str (pa_cons (pv 5) (pa_cons (pe_ix (r := rIxT K) ix_tup (pv 2) pe_int (fun _ _ => rfl)) (pa_cons (pv 4) pa_nil))))) (pa_cons (pe_tup (pa_cons pe_str (pa_cons (C8.pe_c c__law_name hr (by omega) (by rfl) (pa_cons (pv 1) (pa_cons pe_int pa_nil))) (pa_cons pe_str (pa_cons (pe_op op_catA (pe_tup (pa_cons (pe_tup (pa_cons pe_str (pa_cons (pv 3) pa_nil))) pa_nil)) (pe_slice sl_tupA (pv 4) po_none (po_some pe_int))) pa_nil))))) pa_nil))))
      (pss_cons (ps_set (i := 7) sc_g_wide_program.nd rfl (by first | exact Or.inl rfl | exact Or.inr rfl) (pe_op op_catA (pe_tup (pa_cons (pe_tup (pa_cons pe_str (pa_cons (pv 3) pa_nil))) (pa_cons (pe_tup (pa_cons pe_str (pa_cons (pv 5) pa_nil))) pa_nil))) (pe_slice sl_tupA (pv 4) (po_some pe_int) po_none)))
      (pss_one (ps_ret (pe_tup (pa_cons (pe_tup (pa_cons (pe_ix (r := rIxT K) ix_tup (pv 2) pe_int (fun _ _ => rfl)) (pa_cons (pv 2) (pa_cons (pe_tup (pa_cons (pv 6) (pa_cons (pe_tup (pa_cons pe_str (pa_cons (pe_ix (r := rIxT K) ix_tup (pv 2) pe_int (fun _ _ => rfl)) (pa_cons (pv 7) pa_nil)))) pa_nil))) pa_nil)))) pa_nil))))))))))), ?_⟩
  unfold gWide at k
  simp only [] at k
  refine ⟨_, rfl, a, l, 1000000007, rfl, ha, by decide, fun H1 f1 h1 => ?_⟩
  generalize hc : (gNext l 1000000007).1 = c at *
  generalize hl1 : (gNext l 1000000007).2 = l1 at *
  refine ⟨6, rfl, by decide, by decide, fun D hD => ?_⟩
  refine lc_range (lo := 0) (n := 6) (fun i H2 => Fr [] H1 H2 ∧ H2 D = some (.lst ((namesOf c i).map V.str))) ⟨Fr.new hD, upd_same⟩ (fun j H5 hj ⟨q1, q2⟩ => ?_) (fun H5 ⟨q1, q2⟩ => ?_)
  · refine ⟨rfl, ?_⟩
    rw [Int.zero_add]
    refine ⟨_, rfl, _, rfl, c, j, rfl, by omega, fun H6 f6 => ?_⟩
    refine ⟨_, f6.at q2, ?_, Fr.put_new (q1.trans f6) hD, ?_⟩
    · rw [List.length_map, namesOf, List.length_map, List.length_range]
      exact sl_lt (by omega)
    · rw [upd_same, namesOf, namesOf, List.range_succ, List.map_append, List.map_append]
      rfl
  refine ⟨D, _, rfl, .inl ⟨SqL.of q2, fun pt hpt => ?_⟩⟩
  have np6 := names6 c
  have h5 : LI (upd H5 pt (.tup ((namesOf c 6).map V.str))) a l1 := LI.new (q1.at h1) hpt
  have f15 : Fr [a] H (upd H5 pt (.tup ((namesOf c 6).map V.str))) := f1.trans ((Fr.mono q1 (by simp)).trans (Fr.new hpt))
  have hp5 : upd H5 pt (.tup ((namesOf c 6).map V.str)) pt = some (.tup ((namesOf c 6).map V.str)) := upd_same
  have npa : pt ≠ a := fun z => by rw [z, q1.at h1] at hpt; cases hpt
  generalize upd H5 pt (.tup ((namesOf c 6).map V.str)) = H6 at *
  refine ⟨_, rfl, a, l1, rfl, h5, fun H7 v f7 h7 rv => ?_⟩
  generalize hlv : (gLarge l1).1 = dv at *
  generalize hl2 : (gLarge l1).2 = l2 at *
  have hp7 := f7.at hp5 (by simp; exact npa)
  refine ⟨_, rfl, pt, _, rfl, sqT_of hp7, fun rv0 hrv => ?_⟩
  refine ⟨rv0, rfl, ⟨_, sqT_of upd_same⟩, fun D2 hD2 => ?_⟩
  have er : ((namesOf c 6).map V.str).reverse = (namesOf c 6).reverse.map V.str := List.map_reverse.symm
  rw [er]
  have hrv0 : upd H7 rv0 (.tup ((namesOf c 6).reverse.map V.str)) rv0 = some (.tup ((namesOf c 6).reverse.map V.str)) := upd_same
  have f7r : Fr [a] H7 (upd H7 rv0 (.tup ((namesOf c 6).reverse.map V.str))) := Fr.new hrv
  rw [er] at hD2
  have ln6 : (namesOf c 6).reverse.length = 6 := rfl
  have rv7 := rv.new (o := .tup ((namesOf c 6).reverse.map V.str)) hrv
  have h7r := LI.new (o := .tup ((namesOf c 6).reverse.map V.str)) h7 hrv
  have hp7r := (Fr.new (S := []) (o := .tup ((namesOf c 6).reverse.map V.str)) hrv).at hp7
  generalize upd H7 rv0 (.tup ((namesOf c 6).reverse.map V.str)) = H8 at *
  generalize hrn : (namesOf c 6).reverse = rn at *
  refine lc_tup (K := K) (a := rv0) (xs := rn.map V.str) (fun i H9 => Fr [] H8 H9 ∧ ∃ xs, H9 D2 = some (.lst xs) ∧ RepL H9 (((rn.take i).map Atom.of).map Atom.d) xs) ⟨Fr.new hD2, [], upd_same, RepL.nil⟩ (fun i H9 _ ⟨g1, _⟩ => sqT_of (g1.at hrv0)) (fun i x H9 hi ⟨g1, xs, g2, g3⟩ => ?_) (fun H9 ⟨g1, xs, g2, g3⟩ => ?_)
  · rw [List.getElem?_map] at hi
    obtain ⟨y, hy, rfl⟩ := Option.map_eq_some_iff.mp hi
    have hi6 : i < rn.length := by
      by_cases z : i < rn.length
      · exact z
      · rw [List.getElem?_eq_none (by omega)] at hy; cases hy
    refine ⟨rfl, _, rfl, sl2, fun p hp => ?_⟩
    have q2 := fun o => (Fr.new (S := []) (o := o) hp).at g2
    refine ⟨xs, q2 _, ?_, (g1.trans (Fr.new hp)).put_new hD2, _, upd_same, ?_⟩
    · rw [g3.length, List.length_map, List.length_map, List.length_take]
      exact sl_lt (by omega)
    · have ra := rep_new hp (.cons (.str (x := "of")) (.one (.str (x := y))))
      rw [takeG hy, List.map_append, List.map_append]
      exact ((g3.new hp).snoc ra).mono (imm_upd (soft_lst (q2 _)))
  rw [List.length_map, ln6, List.take_of_length_le (by rw [ln6]; exact Nat.le_refl _)] at g3
  have ew : rn.map Atom.of = wideOf c := by rw [← hrn]; rfl
  rw [ew] at g3
  have xl : xs.length = 6 := by rw [g3.length, List.length_map]; rfl
  refine ⟨D2, _, rfl, .inl ⟨SqL.of g2, fun tt htt => ?_⟩⟩
  have f89 : Fr [] H8 (upd H9 tt (.tup xs)) := g1.trans (Fr.new htt)
  have rt : Rep (upd H9 tt (.tup xs)) (atomsD (wideOf c)) (.ref tt) := rep_new htt g3
  have rl0 : RepL (upd H9 tt (.tup xs)) ((wideOf c).map Atom.d) xs := g3.new htt
  have htt1 : upd H9 tt (.tup xs) tt = some (.tup xs) := upd_same
  generalize upd H9 tt (.tup xs) = H10 at *
  have h10 := f89.at h7r
  have hp10 := f89.at hp7r
  have rv10 := rv7.mono f89.imm0
  have fa : Fr [a] H H10 := f15.trans (f7.trans (f7r.trans (Fr.mono f89 (by simp))))
  clear f15 f7 f7r f89 g1 g2 g3
  refine ⟨_, rfl, c, 6, rfl, by decide, fun H11 f11 => ?_⟩
  refine ⟨_, rfl, _, rfl, pt, _, 0, _, rfl, rfl, sqT_of (f11.at hp10), np6, _, rfl, sl4, fun p1 hp1 => ?_⟩
  refine ⟨_, rfl, c, 7, rfl, by decide, fun H12 f12 => ⟨_, rfl, sl2, fun p2 hp2 => ⟨sl1, fun p3 hp3 => ?_⟩⟩⟩
  have y1 := (rt.mono f11.imm0)
  have y2 := (rep_new hp1 (.cons (.str (x := "call")) (.cons (.str (x := gName c 6)) (.cons (.str (x := gName c 0)) (.one y1))))).mono f12.imm0
  have y3 := rep_new hp2 (.cons (.str (x := "is")) (.one (((rv10.mono f11.imm0).new hp1).mono f12.imm0)))
  have f13 := fun o => f11.trans ((Fr.new hp1).trans (f12.trans ((Fr.new hp2).trans (Fr.new (S := []) (o := o) hp3))))
  refine ⟨_, rfl, 2, rfl, tt, xs, rfl, sqT_of ((f13 _).at htt1), fun z => ?_, fun _ p4 hp4 => ?_⟩
  · exfalso
    rw [xl] at z
    exact absurd z (by decide)
  have c1 : cutV xs none (some 2) = xs.take 2 := by
    unfold cutV
    rw [xl]
    rfl
  have lt2 : (xs.take 2).length = 2 := by rw [List.length_take, xl]; rfl
  have ld2 : (xs.drop 2).length = 4 := by rw [List.length_drop, xl]
  have f14 := fun o => (f13 (.tup [V.ref p2])).trans (Fr.new (S := []) (o := o) hp4)
  have t4 : ∀ HH : Hp, (upd HH p4 (.tup (cutV xs none (some 2)))) p4 = some (.tup (xs.take 2)) := fun _ => by rw [c1]; exact upd_same
  refine ⟨p3, p4, [.ref p2], xs.take 2, rfl, rfl, sqT_of ((Fr.new (S := []) hp4).at upd_same), sqT_of (t4 _), by rw [lt2]; exact sl3, (fun z => by cases z), (fun _ z => by rw [z] at lt2; cases lt2), fun _ _ p5 hp5 => ⟨sl4, fun p6 hp6 => ⟨sl2, fun p7 hp7 => ?_⟩⟩⟩
  have z4 := ((rl0.mono (f13 _).imm0).new (o := .tup (cutV xs none (some 2))) hp4).take 2
  have z5 := rep_new hp5 (RepL.append (.one ((y3.new hp3).new hp4)) z4)
  have z6 := rep_new hp6 (.cons (.str (x := "let")) (.cons (.str (x := gName c 7)) (.cons (.str (x := "set")) (.one z5))))
  have z7 := rep_new hp7 (.cons (((((y2.new hp2).new hp3).new hp4).new hp5).new hp6) (.one z6))
  have f17 := (f14 (.tup (cutV xs none (some 2)))).trans ((Fr.new hp5).trans ((Fr.new (S := []) hp6).trans (Fr.new (o := .tup [.ref p1, .ref p6]) hp7)))
  have a7 := f17.at h10
  have b7 := f17.at hp10
  have d7 := f17.at htt1
  have e7 := rv10.mono f17.imm0
  have g7 := rl0.mono f17.imm0
  have fz : Fr [a] H _ := fa.trans (Fr.mono f17 (by simp))
  clear z4 z5 z6 f14 f13 y1 y2 y3 t4
  generalize upd (upd (upd (upd _ p4 _) p5 _) p6 _) p7 (.tup [.ref p1, .ref p6]) = H20 at *
  refine ⟨_, rfl, sl2, fun q1 hq1 => ⟨_, rfl, sl2, fun q2 hq2 => ⟨sl2, fun q3 hq3 => ?_⟩⟩⟩
  have y1 := rep_new hq1 (.cons (.str (x := "is")) (.one e7))
  have y2 := rep_new hq2 (.cons (.str (x := "of")) (.one (.str (x := gName c 6))))
  have f13 := fun o => (Fr.new hq1).trans ((Fr.new hq2).trans (Fr.new (S := []) (o := o) hq3))
  refine ⟨_, rfl, 2, rfl, tt, xs, rfl, sqT_of ((f13 _).at d7), fun z => ?_, fun _ q4 hq4 => ?_⟩
  · exfalso
    rw [xl] at z
    exact absurd z (by decide)
  have c2 : cutV xs (some 2) none = xs.drop 2 := by
    unfold cutV
    rw [xl]
    show (xs.drop 2).take 4 = _
    rw [List.take_of_length_le (by rw [ld2]; exact Nat.le_refl _)]
  have t4 : ∀ HH : Hp, (upd HH q4 (.tup (cutV xs (some 2) none))) q4 = some (.tup (xs.drop 2)) := fun _ => by rw [c2]; exact upd_same
  refine ⟨q3, q4, [.ref q1, .ref q2], xs.drop 2, rfl, rfl, sqT_of ((Fr.new (S := []) hq4).at upd_same), sqT_of (t4 _), by rw [ld2]; exact (by decide : 6 ≤ sizeLine), (fun z => by cases z), (fun _ z => by rw [z] at ld2; cases ld2), fun _ _ q5 hq5 => ?_⟩
  have z4 := ((g7.mono (f13 _).imm0).new (o := .tup (cutV xs (some 2) none)) hq4).drop 2
  have z5 := rep_new hq5 (RepL.append (.cons ((((y1.new hq2).new hq3).new hq4)) (.one ((y2.new hq3).new hq4))) z4)
  have f15 := fun o => (f13 (.tup [.ref q1, .ref q2])).trans ((Fr.new (o := .tup (cutV xs (some 2) none)) hq4).trans (Fr.new (S := []) (o := o) hq5))
  have pk := (f15 (.tup ([.ref q1, .ref q2] ++ xs.drop 2))).at b7
  refine ⟨_, rfl, pt, _, 0, _, rfl, rfl, sqT_of ((f15 _).at b7), np6, _, rfl, _, rfl, _, rfl, pt, _, 0, _, rfl, rfl, sqT_of ((f15 _).at b7), np6, _, rfl, sl3, fun q6 hq6 => ⟨sl2, fun q7 hq7 => ⟨sl3, fun q8 hq8 => ⟨sl1, fun q9 hq9 => ?_⟩⟩⟩⟩
  have z6 := rep_new hq6 (.cons (.str (x := "go")) (.cons (.str (x := gName c 0)) (.one z5)))
  have z7' := rep_new hq7 (.cons ((((((((z7.new hq1).new hq2).new hq3).new hq4).new hq5).new hq6))) (.one z6))
  have rp : Rep _ (.tup ((namesOf c 6).map FK.D.str)) (.ref pt) := rep_tup.mpr ⟨pt, _, rfl, pk, repL_strs _⟩
  have z8 := rep_new hq8 (.cons (.str (x := gName c 0)) (.cons ((rp.new hq6).new hq7) (.one z7')))
  have z9 := rep_new hq9 (.one z8)
  have ff := fun o => (f15 (.tup ([.ref q1, .ref q2] ++ xs.drop 2))).trans ((Fr.new hq6).trans ((Fr.new hq7).trans ((Fr.new hq8).trans (Fr.new (S := []) (o := o) hq9))))
  refine k _ _ (fz.trans (Fr.mono (ff _) (by simp))) ((ff _).at a7) ?_
  skip
  exact z9
end
end FK
/-! FKG11 -/
set_option maxHeartbeats 400000
namespace FK
open PySem PySem.Spec PyProof.Rows L2
open TL (tl)
/-! ### a tree -/
structure BS where
  ss : List Step
  sc : List Str
  us : List Str
def lastS (l : List Str) : Str := l.getD (l.length - 1) Str.empty
def brSteps (c : Int) : Nat → BS → BS
  | 0, t => t
  | n + 1, t => ⟨(brSteps c n t).ss ++ [.let_ (gName c (brSteps c n t).us.length) "add" [.of (lastS (brSteps c n t).sc), .is (.int ((brSteps c n t).us.length : Int))]],
    (brSteps c n t).sc ++ [gName c (brSteps c n t).us.length], (brSteps c n t).us ++ [gName c (brSteps c n t).us.length]⟩
theorem brSteps_len {c : Int} {t : BS} : ∀ n, (brSteps c n t).ss.length = t.ss.length + n ∧ (brSteps c n t).sc.length = t.sc.length + n ∧ (brSteps c n t).us.length = t.us.length + n
  | 0 => ⟨rfl, rfl, rfl⟩
  | n + 1 => by
    obtain ⟨a, b, d⟩ := brSteps_len (c := c) (t := t) n
    rw [brSteps, List.length_append, List.length_append, List.length_append, a, b, d]
    exact ⟨rfl, rfl, rfl⟩
def brN (l : List Int) (room : Nat) : Nat := if (gNext l 4).1 < (room : Int) then (gNext l 4).1.toNat else room
theorem brN_le (l : List Int) (room : Nat) : brN l room ≤ room ∧ brN l room ≤ 3 := by
  have := gNext_lo l (show (0 : Int) < 4 by decide)
  have := gNext_hi l (show (0 : Int) < 4 by decide)
  unfold brN
  split <;> omega
theorem brN_int (l : List Int) (room : Nat) : (if (gNext l 4).1 < (room : Int) then (gNext l 4).1 else (room : Int)) = ((brN l room : Nat) : Int) := by
  have := gNext_lo l (show (0 : Int) < 4 by decide)
  unfold brN
  split <;> omega
structure BR where
  b : Block
  us : List Str
  l : List Int
  room : Nat
def gBr (c : Int) : Nat → List Str → List Str → List Int → Nat → BR
  | 0, us, sc, l, room =>
    let t := brSteps c (brN l room) ⟨[], sc, us⟩
    ⟨.leaf t.ss (.give (.of (lastS t.sc))), t.us, (gNext l 4).2, room - brN l room⟩
  | d + 1, us, sc, l, room =>
    let t := brSteps c (brN l room) ⟨[], sc, us⟩
    let p := gBr c d t.us t.sc (gNext l 4).2 (room - brN l room)
    let q := gBr c d p.us t.sc p.l p.room
    ⟨.iff t.ss (.of (t.sc.getD 0 Str.empty)) p.b q.b, q.us, q.l, q.room⟩
theorem gBr_len (c : Int) : ∀ (d : Nat) (us sc : List Str) (l : List Int) (room : Nat), (gBr c d us sc l room).us.length + (gBr c d us sc l room).room = us.length + room ∧ us.length ≤ (gBr c d us sc l room).us.length
  | 0, us, sc, l, room => by
    have h := (brSteps_len (c := c) (t := ⟨[], sc, us⟩) (brN l room)).2.2
    have h' : (brSteps c (brN l room) ⟨[], sc, us⟩).us.length = us.length + brN l room := h
    have := (brN_le l room).1
    show (brSteps c (brN l room) ⟨[], sc, us⟩).us.length + (room - brN l room) = _ ∧ us.length ≤ (brSteps c (brN l room) ⟨[], sc, us⟩).us.length
    omega
  | d + 1, us, sc, l, room => by
    have h := (brSteps_len (c := c) (t := ⟨[], sc, us⟩) (brN l room)).2.2
    have h' : (brSteps c (brN l room) ⟨[], sc, us⟩).us.length = us.length + brN l room := h
    have := (brN_le l room).1
    rw [gBr]
    simp only []
    generalize brSteps c (brN l room) ⟨[], sc, us⟩ = t at *
    have h1 := gBr_len c d t.us t.sc (gNext l 4).2 (room - brN l room)
    generalize gBr c d t.us t.sc (gNext l 4).2 (room - brN l room) = p at *
    have h2 := gBr_len c d p.us t.sc p.l p.room
    omega
def zeros (n : Nat) : List V := List.replicate n (V.int 0)
theorem zeros_pop {n i : Nat} (h : i < n) : (zeros (n - i))[(zeros (n - i)).length - 1]? = some (V.int 0) ∧ (zeros (n - i)).dropLast = zeros (n - (i + 1)) := by
  obtain ⟨m, e⟩ : ∃ m, n - i = m + 1 := ⟨n - i - 1, by omega⟩
  have e2 : n - (i + 1) = m := by omega
  rw [e, e2]
  unfold zeros
  constructor
  · rw [List.length_replicate, List.getElem?_replicate]
    simp
  · simp [List.dropLast_replicate]
def spBr (d : Nat) : Sp := fun vs H Q _ => ∃ (a u sa rm : Addr) (l : List Int) (us sc : List Str) (room : Nat) (c : Int), vs = [.ref a, .int c, .ref u, .ref sa, .int (d : Int), .ref rm] ∧ LI H a l ∧ H u = some (.lst (us.map V.str)) ∧ H sa = some (.lst (sc.map V.str)) ∧
  H rm = some (.lst (zeros room)) ∧ u ≠ a ∧ rm ≠ a ∧ rm ≠ u ∧ us.length + room ≤ 100 ∧ 1 ≤ sc.length ∧ sc.length ≤ us.length ∧ 
  ∀ H' v, Fr [a, u, rm] H H' → LI H' a (gBr c d us sc l room).l → H' u = some (.lst ((gBr c d us sc l room).us.map V.str)) → H' rm = some (.lst (zeros (gBr c d us sc l room).room)) → Rep H' (gBr c d us sc l room).b.d v → Q v H'
def spBrs : Nat → Sp
  | 0 => fun _ _ _ _ => False
  | n + 1 => spBr n
theorem Fr.imm3 {H H' : Hp} {p q r : Addr} {xs ys zs : List V} (a : Fr [p, q, r] H H') (h : H p = some (.lst xs)) (g : H q = some (.lst ys)) (k : H r = some (.lst zs)) : Imm H H' := a.imm fun b m => by
  rcases List.mem_cons.mp m with e | m
  · rw [e]; exact soft_lst h
  rcases List.mem_cons.mp m with e | m
  · rw [e]; exact soft_lst g
  · rw [List.mem_singleton.mp m]; exact soft_lst k
theorem atI_last {l : List Str} (h : 1 ≤ l.length) : atI (l.map V.str) (-1) = some (.str (lastS l)) := by
  unfold atI ixN
  rw [if_neg (by decide)]
  rw [List.length_map]
  have e : (-1 + (l.length : Int)).toNat = l.length - 1 := by omega
  rw [if_pos (by omega)]
  show (l.map V.str)[_]? = _
  rw [List.getElem?_map, e, get?_getD Str.empty (by omega)]
  rfl
section
variable {P : Program} {w : World} {K : PySem.W.Frag} {mg : Str → Option Value} {base : Heap}
theorem sc_g_branches : FnScope ["_law_deck_here", "_law_cell", "_law_used", "_law_scope", "_law_deep", "_law_room", "_law_steps", "_law_turn", "_law_one", "_law_other", "_law_name_here"] ["_law_deck_here", "_law_cell", "_law_used", "_law_scope", "_law_deep", "_law_room"] (defScope s_g_branches) := C8.fnScope_by (by decide +kernel)
theorem ok_br_step (T : TX K mg) {d : Nat} (hd : d ≤ 8) (c__law_branches : C8.Cal P w K mg base (2 + d) "_law_branches" (spBrs d) []) : C8.Cal P w K mg base (3 + d) "_law_branches" (spBrs (d + 1)) [] := by
  have c__law_next : C8.Cal P w K mg base 1 "_law_next" spNext [] := ok_next T
  have c__law_name : C8.Cal P w K mg base 2 "_law_name" (spName gName) [] := ok_name T
  have e8 : 3 + d = (2 + d) + 1 := by omega
  rw [e8]
  refine cal_of T.f_g_branches T.g__law_branches sc_g_branches (fun _ _ _ _ _ _ us hl => match us, hl with | [_, _, _, _, _, _], _ => rfl) (fun vs H Q E h => ?_) (fun cdv A outer s H vs Q E hr h => ?_)
  · obtain ⟨a, u, sa, rm, l, us, sc, room, c, rfl, _⟩ := h
    rfl
  obtain ⟨a, u, sa, rm, l, us, sc, room, c, rfl, ha, hu, hsa, hrm, nua, nra, nru, hb, hs1, hsu, k⟩ := h
  refine ⟨_, (pss_cons (ps_set (i := 6) sc_g_branches.nd rfl (by first | exact Or.inl rfl | exact Or.inr rfl) (pe_lst pa_nil))
      (pss_cons (ps_set (i := 3) sc_g_branches.nd rfl (by first | exact Or.inl rfl | exact Or.inr rfl) (pe_callTy call_list_of (by rfl) T.z_list (by decide +kernel) (pa_cons (pv 3) pa_nil)))
      (pss_cons (ps_for PassesOwn.never rfl (pi_range1 (by rfl) T.z_range (pa_cons (pe_callB (call_min2 rfl) (by rfl) T.z_min (by decide +kernel) (pa_cons (pe_callB call_len_seq (by rfl) T.z_len (by decide +kernel) (pa_cons (pv 5) pa_nil)) (pa_cons (C8.pe_c c__law_next hr (by omega) (by rfl) (pa_cons (pv 0) (pa_cons pe_int pa_nil))) pa_nil))) pa_nil)) (pg_name (i := 7) sc_g_branches.nd rfl (by first | exact Or.inl rfl | exact Or.inr rfl))
        (pss_cons (ps_expr (pe_bm0 PySem.F.plainAttrs_list PySem.F.slot_list_pop PySem.F.type_list_pop mt_pop (pv 5)))
      (pss_cons (ps_set (i := 10) sc_g_branches.nd rfl (by first | exact Or.inl rfl | exact Or.inr rfl) (C8.pe_c c__law_name hr (by omega) (by rfl) (pa_cons (pv 1) (pa_cons (pe_callB call_len_seq (by rfl) T.z_len (by decide +kernel) (pa_cons (pv 2) pa_nil)) pa_nil))))
      (pss_cons (ps_expr (pe_bm PySem.F.plainAttrs_list PySem.F.slot_list_append PySem.F.type_list_append mt_append (pv 6) (pa_cons (pe_tup (pa_cons pe_str (pa_cons (pv 10) (pa_cons pe_str (pa_cons (pe_tup (pa_cons (pe_tup (pa_cons pe_str (pa_cons (pe_ix (r := rIxL K) ix_list (pv 3) (pe_un un_neg pe_int) (fun _ _ => rfl)) pa_nil))) (pa_cons (pe_tup (pa_cons pe_str (pa_cons (pe_callB call_len_seq (by rfl) T.z_len (by decide +kernel) (pa_cons (pv 2) pa_nil)) pa_nil))) pa_nil))) pa_nil))))) pa_nil)))
      (pss_cons (ps_expr (pe_bm PySem.F.plainAttrs_list PySem.F.slot_list_append PySem.F.type_list_append mt_append (pv 2) (pa_cons (pv 10) pa_nil)))
      (pss_one (ps_expr (pe_bm PySem.F.plainAttrs_list PySem.F.slot_list_append PySem.F.type_list_append mt_append (pv 3) (pa_cons (pv 10) pa_nil)))))))))
      (pss_cons (ps_if (pt_cmpR op_eq (pv 4) pe_int (nomark _)) (pss_one (ps_ret (pe_tup (pa_cons (pe_callTy call_tuple_of (by rfl) T.z_tuple (by decide +kernel) (pa_cons (pv 6) pa_nil)) (pa_cons (pe_tup (pa_cons pe_str (pa_cons (pe_tup (pa_cons pe_str (pa_cons (pe_ix (r := rIxL K) ix_list (pv 3) (pe_un un_neg pe_int) (fun _ _ => rfl)) pa_nil))) pa_nil))) pa_nil))))) pss_nil)
      (pss_cons (ps_set (i := 8) sc_g_branches.nd rfl (by first | exact Or.inl rfl | exact Or.inr rfl) (C8.pe_c c__law_branches hr (by omega) (by rfl) (pa_cons (pv 0) (pa_cons (pv 1) (pa_cons (pv 2) (pa_cons (pv 3) (pa_cons (pe_op op_sub (pv 4) pe_int) (pa_cons (pv 5) pa_nil))))))))
      (pss_cons (ps_set (i := 9) sc_g_branches.nd rfl (by first | exact Or.inl rfl | exact Or.inr rfl) (C8.pe_c c__law_branches hr (by omega) (by rfl) (pa_cons (pv 0) (pa_cons (pv 1) (pa_cons (pv 2) (pa_cons (pv 3) (pa_cons (pe_op op_sub (pv 4) pe_int) (pa_cons (pv 5) pa_nil))))))))
      (pss_one (ps_ret (pe_tup (pa_cons (pe_callTy call_tuple_of (by rfl) T.z_tuple (by decide +kernel) (pa_cons (pv 6) pa_nil)) (pa_cons (pe_tup (pa_cons pe_str (pa_cons (pe_tup (pa_cons pe_str (pa_cons (pe_ix (r := rIxL K) ix_list (pv 3) pe_int (fun _ _ => rfl)) pa_nil))) (pa_cons (pv 8) (pa_cons (pv 9) pa_nil))))) pa_nil))))))))))), ?_⟩
  refine ⟨sl0, fun pp hpp => ⟨_, rfl, sa, _, rfl, .inl (SqL.of ((Fr.new (S := []) hpp).at hsa)), fun sc1 hsc1 => ?_⟩⟩
  have f0 : Fr [a, u, rm] H (upd (upd H pp (.lst [])) sc1 (.lst (sc.map V.str))) := (Fr.new hpp).trans (Fr.new hsc1)
  have npp_a : pp ≠ a := fun z => by rw [z, ha] at hpp; cases hpp
  have npp_u : pp ≠ u := fun z => by rw [z, hu] at hpp; cases hpp
  have npp_r : pp ≠ rm := fun z => by rw [z, hrm] at hpp; cases hpp
  have hsc1' : H sc1 = none := (Fr.new (S := []) hpp).free hsc1 (by simp)
  have nsc_p : sc1 ≠ pp := fun z => by rw [z, upd_same] at hsc1; cases hsc1
  have nsc_a : sc1 ≠ a := fun z => by rw [z, ha] at hsc1'; cases hsc1'
  have nsc_u : sc1 ≠ u := fun z => by rw [z, hu] at hsc1'; cases hsc1'
  have nsc_r : sc1 ≠ rm := fun z => by rw [z, hrm] at hsc1'; cases hsc1'
  have fq := fun o => (Fr.new (S := []) (o := .lst []) hpp).trans (Fr.new (o := o) hsc1)
  have ha0 := (fq (.lst (sc.map V.str))).at ha
  have hu0 := (fq (.lst (sc.map V.str))).at hu
  have hr0 := (fq (.lst (sc.map V.str))).at hrm
  have hp0 : (upd (upd H pp (.lst [])) sc1 (.lst (sc.map V.str))) pp = some (.lst []) := by rw [upd_ne nsc_p.symm]; exact upd_same
  have hsc0 : (upd (upd H pp (.lst [])) sc1 (.lst (sc.map V.str))) sc1 = some (.lst (sc.map V.str)) := upd_same
  generalize upd (upd H pp (.lst [])) sc1 (.lst (sc.map V.str)) = H0 at *
  obtain ⟨bn1, bn2⟩ := brN_le l room
  have ebn := brN_int l room
  refine ⟨_, rfl, rm, _, rfl, .inl (SqL.of hr0), _, rfl, a, l, 4, rfl, ha0, by decide, fun H1 f1 h1 => ?_⟩
  have ezl : (zeros room).length = room := List.length_replicate
  refine ⟨_, _, rfl, ((brN l room : Nat) : Int), by rw [ezl, ebn], by omega, by omega, ?_⟩
  have f01 : Fr [a, u, rm] H H1 := f0.trans (f1.mono (by simp))
  have k0 : ∀ t, t = brSteps c (brN l room) ⟨[], sc, us⟩ → d = 0 → ∀ H' v, Fr [a, u, rm] H H' → LI H' a (gNext l 4).2 → H' u = some (.lst (t.us.map V.str)) → H' rm = some (.lst (zeros (room - brN l room))) → Rep H' (Block.leaf t.ss (.give (.of (lastS t.sc)))).d v → Q v H' := fun t et ed H' v a1 a2 a3 a4 a5 => by
    subst et ed
    exact k H' v a1 a2 a3 a4 a5
  have k1 : ∀ t, t = brSteps c (brN l room) ⟨[], sc, us⟩ → ∀ m, d = m + 1 → ∀ p, p = gBr c m t.us t.sc (gNext l 4).2 (room - brN l room) → ∀ q, q = gBr c m p.us t.sc p.l p.room → ∀ H' v, Fr [a, u, rm] H H' → LI H' a q.l → H' u = some (.lst (q.us.map V.str)) → H' rm = some (.lst (zeros q.room)) → Rep H' (Block.iff t.ss (.of (t.sc.getD 0 Str.empty)) p.b q.b).d v → Q v H' := fun t et m ed p ep q eq H' v a1 a2 a3 a4 a5 => by
    subst et ed ep eq
    exact k H' v a1 a2 a3 a4 a5
  clear k
  obtain ⟨ln1, ln2, ln3⟩ := brSteps_len (c := c) (t := ⟨[], sc, us⟩) (brN l room)
  have ln2' : (brSteps c (brN l room) ⟨[], sc, us⟩).sc.length = sc.length + brN l room := ln2
  have ln3' : (brSteps c (brN l room) ⟨[], sc, us⟩).us.length = us.length + brN l room := ln3
  clear ln1 ln2 ln3 ebn
  generalize hn : brN l room = n at *
  generalize hl1 : (gNext l 4).2 = l1 at *
  refine for_range (lo := 0) (n := n) (fun i σ H1 => ∃ vk vn xs, σ = [some (V.ref a), some (V.int c), some (V.ref u), some (V.ref sc1), some (V.int (d : Int)), some (V.ref rm), some (V.ref pp), vk, none, none, vn] ∧
    LI H1 a l1 ∧ H1 u = some (.lst ((brSteps c i ⟨[], sc, us⟩).us.map V.str)) ∧ H1 sc1 = some (.lst ((brSteps c i ⟨[], sc, us⟩).sc.map V.str)) ∧ H1 rm = some (.lst (zeros (room - i))) ∧ H1 pp = some (.lst xs) ∧ RepL H1 ((brSteps c i ⟨[], sc, us⟩).ss.map Step.d) xs ∧ Fr [a, u, rm] H H1)
    ⟨none, none, [], rfl, h1, f1.at hu0 (by simp; exact nua), f1.at hsc0 (by simp; exact nsc_a), f1.at hr0 (by simp; exact nra), f1.at hp0 (by simp; exact npp_a), RepL.nil, f01⟩ ?_ ?_
  · rintro i σ H2 hi2 ⟨vk, vn, xs, rfl, g1, g2, g3, g4, g5, g6, g7⟩
    obtain ⟨b1, b2, b3⟩ := brSteps_len (c := c) (t := ⟨[], sc, us⟩) i
    have b1' : (brSteps c i ⟨[], sc, us⟩).ss.length = 0 + i := b1
    have b2' : (brSteps c i ⟨[], sc, us⟩).sc.length = sc.length + i := b2
    have b3' : (brSteps c i ⟨[], sc, us⟩).us.length = us.length + i := b3
    clear b1 b2 b3
    have xl : xs.length = i := by rw [g6.length, List.length_map, b1']; omega
    rw [brSteps]
    generalize brSteps c i ⟨[], sc, us⟩ = t at *
    obtain ⟨zp1, zp2⟩ := zeros_pop (n := room) (i := i) (by omega)
    refine ⟨_, rfl, .inl ⟨rfl, _, SqL.of g4⟩, rm, _, _, rfl, rfl, g4, zp1, ?_⟩
    rw [zp2]
    have mr : Imm H2 (upd H2 rm (.lst (zeros (room - (i + 1))))) := imm_upd (soft_lst g4)
    have a1 : LI (upd H2 rm (.lst (zeros (room - (i + 1))))) a l1 := LI.keep g1 nra.symm
    have a2 : (upd H2 rm (.lst (zeros (room - (i + 1))))) u = _ := (upd_ne nru.symm).trans g2
    have a3 : (upd H2 rm (.lst (zeros (room - (i + 1))))) sc1 = _ := (upd_ne nsc_r).trans g3
    have a4 : (upd H2 rm (.lst (zeros (room - (i + 1))))) rm = _ := upd_same
    have a5 : (upd H2 rm (.lst (zeros (room - (i + 1))))) pp = _ := (upd_ne npp_r).trans g5
    have a6 := g6.mono mr
    have a7 : Fr [a, u, rm] H (upd H2 rm (.lst (zeros (room - (i + 1))))) := g7.trans (Fr.put (by simp))
    generalize upd H2 rm (.lst (zeros (room - (i + 1)))) = H3 at *
    refine ⟨_, rfl, _, rfl, u, _, rfl, .inl (SqL.of a2), c, t.us.length, by rw [List.length_map]; rfl, by omega, fun H4 f4 => ?_⟩
    have sl : 1 ≤ t.sc.length := by omega
    refine ⟨_, rfl, .inl ⟨rfl, _, SqL.of (f4.at a5)⟩, _, rfl, _, rfl, 1, rfl, sc1, _, -1, _, rfl, rfl, SqL.of (f4.at a3), atI_last sl, sl2, fun p1 hp1 => ⟨_, rfl, u, _, rfl, .inl (SqL.of ((Fr.new (S := []) hp1).at (f4.at a2))), sl2, fun p2 hp2 => ⟨sl2, fun p3 hp3 => ⟨sl4, fun p4 hp4 => ?_⟩⟩⟩⟩
    have e0 : ((t.us.map V.str).length : Int) = (t.us.length : Int) := by rw [List.length_map]
    have y1 := rep_new hp1 (.cons (.str (x := "of")) (.one (.str (x := lastS t.sc))))
    have y2 := rep_new hp2 (.cons (.str (x := "is")) (.one (.int (i := ((t.us.map V.str).length : Int)))))
    have y3 := rep_new hp3 (.cons (y1.new hp2) (.one y2))
    have y4 := rep_new hp4 (.cons (.str (x := "let")) (.cons (.str (x := gName c t.us.length)) (.cons (.str (x := "add")) (.one y3))))
    have fz := fun o => f4.trans ((Fr.new hp1).trans ((Fr.new hp2).trans ((Fr.new hp3).trans (Fr.new (S := []) (o := o) hp4))))
    have b1 := fun o => (fz o).at a1
    have b2 := fun o => (fz o).at a2
    have b3 := fun o => (fz o).at a3
    have b4 := fun o => (fz o).at a4
    have b5 := fun o => (fz o).at a5
    have b6 := fun o => (a6.mono (fz o).imm0)
    refine ⟨pp, _, _, rfl, rfl, b5 _, by rw [xl]; exact sl_lt (by omega), ?_⟩
    replace b1 := b1 (.tup [.str "let", .str (gName c t.us.length), .str "add", .ref p3])
    replace b2 := b2 (.tup [.str "let", .str (gName c t.us.length), .str "add", .ref p3])
    replace b3 := b3 (.tup [.str "let", .str (gName c t.us.length), .str "add", .ref p3])
    replace b4 := b4 (.tup [.str "let", .str (gName c t.us.length), .str "add", .ref p3])
    replace b5 := b5 (.tup [.str "let", .str (gName c t.us.length), .str "add", .ref p3])
    replace b6 := b6 (.tup [.str "let", .str (gName c t.us.length), .str "add", .ref p3])
    replace fz := fz (.tup [.str "let", .str (gName c t.us.length), .str "add", .ref p3])
    rw [e0] at y4 b1 b2 b3 b4 b5 b6 fz ⊢
    generalize upd (upd (upd (upd H4 p1 _) p2 _) p3 _) p4 (.tup [.str "let", .str (gName c t.us.length), .str "add", .ref p3]) = H5 at *
    have c2 : upd H5 pp (.lst (xs ++ [V.ref p4])) u = _ := (upd_ne npp_u.symm).trans b2
    refine ⟨_, rfl, .inl ⟨rfl, _, SqL.of c2⟩, _, rfl, u, _, _, rfl, rfl, c2, by rw [List.length_map]; exact sl_lt (by omega), ?_⟩
    have c3 : upd (upd H5 pp (.lst (xs ++ [V.ref p4]))) u (.lst (t.us.map V.str ++ [V.str (gName c t.us.length)])) sc1 = _ := (upd_ne nsc_u).trans ((upd_ne nsc_p).trans b3)
    refine ⟨_, rfl, .inl ⟨rfl, _, SqL.of c3⟩, _, rfl, sc1, _, _, rfl, rfl, c3, by rw [List.length_map]; exact sl_lt (by omega), ?_⟩
    have m1 : Imm H5 (upd H5 pp (.lst (xs ++ [V.ref p4]))) := imm_upd (soft_lst b5)
    have m2 : Imm (upd H5 pp (.lst (xs ++ [V.ref p4]))) (upd (upd H5 pp (.lst (xs ++ [V.ref p4]))) u (.lst (t.us.map V.str ++ [V.str (gName c t.us.length)]))) := imm_upd (soft_lst c2)
    have m3 : Imm H5 (upd (upd (upd H5 pp (.lst (xs ++ [V.ref p4]))) u (.lst (t.us.map V.str ++ [V.str (gName c t.us.length)]))) sc1 (.lst (t.sc.map V.str ++ [V.str (gName c t.us.length)]))) := m1.trans (m2.trans (imm_upd (soft_lst c3)))
    refine ⟨_, _, xs ++ [V.ref p4], rfl, ?_, ?_, ?_, ?_, ?_, ?_, ?_⟩
    · show upd _ _ _ a = _
      rw [upd_ne nsc_a.symm, upd_ne nua.symm, upd_ne npp_a.symm]
      exact b1
    · rw [upd_ne nsc_u.symm, upd_same, List.map_append]
      rfl
    · rw [upd_same, List.map_append]
      rfl
    · rw [upd_ne nsc_r.symm, upd_ne nru, upd_ne npp_r.symm]
      exact b4
    · rw [upd_ne nsc_p.symm, upd_ne npp_u]
      exact upd_same
    · rw [List.map_append]
      exact (b6.snoc y4).mono m3
    · exact Fr.put_new (((a7.trans (Fr.mono fz (by simp))).put_new hpp).trans (Fr.put (by simp))) hsc1'
  rintro σ H2 ⟨vk, vn, xs, rfl, g1, g2, g3, g4, g5, g6, g7⟩
  generalize htt : brSteps c n ⟨[], sc, us⟩ = t at *
  replace k0 := k0 t rfl
  replace k1 := k1 t rfl
  have sl : 1 ≤ t.sc.length := by omega
  refine ⟨_, rfl, rfl, _, rfl, ifI (fun q => ?_) fun q => ?_⟩
  · refine ⟨_, rfl, pp, _, rfl, .inl ⟨SqL.of g5, fun t1 ht1 => ⟨_, rfl, 1, rfl, sc1, _, -1, _, rfl, rfl, SqL.of ((Fr.new (S := []) ht1).at g3), atI_last sl, sl2, fun p1 hp1 => ⟨sl2, fun p2 hp2 => ⟨sl2, fun p3 hp3 => ?_⟩⟩⟩⟩⟩
    have y1 := rep_new hp1 (.cons (.str (x := "of")) (.one (.str (x := lastS t.sc))))
    have y2 := rep_new hp2 (.cons (.str (x := "give")) (.one y1))
    have y3 := rep_new hp3 (.cons (((rep_new ht1 g6).new hp1).new hp2) (.one y2))
    have fz := fun o => (Fr.new ht1).trans ((Fr.new hp1).trans ((Fr.new hp2).trans (Fr.new (S := []) (o := o) hp3)))
    exact k0 (by omega) _ _ (g7.trans (Fr.mono (fz _) (by simp))) ((fz _).at g1) ((fz _).at g2) ((fz _).at g4) y3
  obtain ⟨m, rfl⟩ : ∃ m, d = m + 1 := ⟨d - 1, by omega⟩
  replace k1 := k1 m rfl
  have l1' := gBr_len c m t.us t.sc l1 (room - n)
  generalize hp : gBr c m t.us t.sc l1 (room - n) = p at *
  replace k1 := k1 p rfl
  refine ⟨_, rfl, _, rfl, _, rfl, _, rfl, _, rfl, _, _, rfl, rfl, _, rfl, a, u, sc1, rm, l1, t.us, t.sc, room - n, c, congrArg (fun z => [V.ref a, V.int c, V.ref u, V.ref sc1, V.int z, V.ref rm]) (by omega), g1, g2, g3, g4, nua, nra, nru, by omega, by omega, by omega, ?_⟩
  rw [hp]
  intro H3 v1 f3 a1 a2 a3 rv1
  have n1 : sc1 ∉ [a, u, rm] := by simp; exact ⟨nsc_a, nsc_u, nsc_r⟩
  have n2 : pp ∉ [a, u, rm] := by simp; exact ⟨npp_a, npp_u, npp_r⟩
  have g33 := f3.at g3 n1
  have g35 := f3.at g5 n2
  have i3 : Imm H2 H3 := f3.imm3 g1 g2 g4
  have l2' := gBr_len c m p.us t.sc p.l p.room
  generalize hq : gBr c m p.us t.sc p.l p.room = qq at *
  refine ⟨_, rfl, _, rfl, _, rfl, _, rfl, _, rfl, _, _, rfl, rfl, _, rfl, a, u, sc1, rm, p.l, p.us, t.sc, p.room, c, congrArg (fun z => [V.ref a, V.int c, V.ref u, V.ref sc1, V.int z, V.ref rm]) (by omega), a1, a2, g33, a3, nua, nra, nru, by omega, by omega, by omega, ?_⟩
  rw [hq]
  intro H4 v2 f4 d1 d2 d3 rv2
  have g43 := f4.at g33 n1
  have g45 := f4.at g35 n2
  have i4 : Imm H3 H4 := f4.imm3 a1 a2 a3
  have e00 : atI (t.sc.map V.str) 0 = some (.str (t.sc.getD 0 Str.empty)) := atI_strs (by decide) (by omega)
  refine ⟨_, rfl, pp, _, rfl, .inl ⟨SqL.of g45, fun t1 ht1 => ⟨_, rfl, sc1, _, 0, _, rfl, rfl, SqL.of ((Fr.new (S := []) ht1).at g43), e00, sl2, fun p1 hp1 => ⟨_, rfl, _, rfl, sl4, fun p2 hp2 => ⟨sl2, fun p3 hp3 => ?_⟩⟩⟩⟩⟩
  have y1 := rep_new hp1 (.cons (.str (x := "of")) (.one (.str (x := t.sc.getD 0 Str.empty))))
  have y2 := rep_new hp2 (.cons (.str (x := "if")) (.cons y1 (.cons (((rv1.mono i4).new ht1).new hp1) (.one ((rv2.new ht1).new hp1)))))
  have y3 := rep_new hp3 (.cons (((rep_new ht1 (g6.mono (i3.trans i4))).new hp1).new hp2) (.one y2))
  have fz := fun o => (Fr.new ht1).trans ((Fr.new hp1).trans ((Fr.new hp2).trans (Fr.new (S := []) (o := o) hp3)))
  exact k1 qq rfl _ _ (g7.trans (f3.trans (f4.trans (Fr.mono (fz _) (by simp))))) ((fz _).at d1) ((fz _).at d2) ((fz _).at d3) y3
end
end FK
/-! FKG12 -/
set_option maxHeartbeats 400000
namespace FK
open PySem PySem.Spec PyProof.Rows L2
open TL (tl)
def treeStep (c : Int) (u0 : Str) (us : Nat) (k : Nat) : Step := .let_ (gName c (us + k)) "less" [.is (.int (k : Int)), .of u0]
def treeSteps (c : Int) (u0 : Str) (us n : Nat) : List Step := (List.range n).map (treeStep c u0 us)
def treeUs (c : Int) (us : List Str) (n : Nat) : List Str := us ++ (List.range n).map fun k => gName c (us.length + k)
def gTree (most : Nat) (l : List Int) : Prog × List Int :=
  let c := gNext l 1000000007
  let p := gBr c.1 3 [gName c.1 0] [gName c.1 0] c.2 (most - 31)
  let q := gBr c.1 3 p.us [gName c.1 0] p.l p.room
  ([⟨gName c.1 90, [gName c.1 0], .iff (treeSteps c.1 (gName c.1 0) q.us.length q.room) (.of (if 0 < q.room then lastS (treeUs c.1 q.us q.room) else gName c.1 0)) p.b q.b⟩], q.l)
def gAny (l : List Int) : Prog × List Int :=
  let w := gNext l 12
  if w.1 = 1 then gRows w.2 else if w.1 = 2 then gDeep w.2 else if w.1 = 3 then gLong w.2 else if w.1 = 4 then gWide w.2
  else if w.1 = 5 ∨ w.1 = 6 then gTree (54 + w.1).toNat w.2 else gProgram w.2
theorem gBr_head (c : Int) (x : Str) : ∀ (d : Nat) (us sc : List Str) (l : List Int) (room : Nat), us.head? = some x → (gBr c d us sc l room).us.head? = some x := by
  have g : ∀ (n : Nat) (t : BS), t.us.head? = some x → (brSteps c n t).us.head? = some x := fun n => by
    induction n with
    | zero => exact fun t h => h
    | succ n ih =>
      intro t h
      rw [brSteps]
      show ((brSteps c n t).us ++ _).head? = _
      rw [List.head?_append, ih t h]
      rfl
  intro d
  induction d with
  | zero => exact fun us sc l room h => g _ _ h
  | succ d ih =>
    intro us sc l room h
    rw [gBr]
    exact ih _ _ _ _ (ih _ _ _ _ (g _ _ h))
theorem cut_head {l : List Str} {x : Str} (h : l.head? = some x) : cutV (l.map V.str) none (some 1) = [V.str x] := by
  cases l with
  | nil => cases h
  | cons y r =>
    obtain rfl : y = x := Option.some.inj h
    unfold cutV
    have e0 : HT.sIx ((y :: r).map V.str).length 0 none = 0 := rfl
    have e1 : HT.sIx ((y :: r).map V.str).length ((y :: r).map V.str).length (some 1) = 1 := by
      show (if (1 : Int) < 0 then (1 + ((((y :: r).map V.str).length : Nat) : Int)).toNat else min (1 : Int).toNat ((y :: r).map V.str).length) = 1
      rw [if_neg (by decide), List.length_map, List.length_cons]
      show min 1 (r.length + 1) = 1
      omega
    rw [e0, e1]
    rfl
theorem head_at {l : List Str} {x : Str} (h : l.head? = some x) : atI (l.map V.str) 0 = some (.str x) := by
  cases l with
  | nil => cases h
  | cons y r =>
    obtain rfl : y = x := Option.some.inj h
    rw [atI_strs (by decide) (by rw [List.length_cons]; omega)]
    rfl
def spTree : Sp := fun vs H Q _ => ∃ (a : Addr) (l : List Int) (most : Nat), vs = [.ref a, .int (most : Int)] ∧ 31 ≤ most ∧ most ≤ 60 ∧ LI H a l ∧
  ∀ H' v, Fr [a] H H' → LI H' a (gTree most l).2 → Rep H' (progD (gTree most l).1) v → Q v H'
section
variable {P : Program} {w : World} {K : PySem.W.Frag} {mg : Str → Option Value} {base : Heap}
theorem ok_br (T : TX K mg) : ∀ d, d ≤ 8 → C8.Cal P w K mg base (3 + d) "_law_branches" (spBr d) []
  | 0, _ => by
    refine ok_br_step T (d := 0) (by decide) ?_
    obtain ⟨f, fd, ps, ds, F, a, b, c, d⟩ := (cal_none (P := P) (w := w) (base := base) T.f_g_branches T.g__law_branches (ps := ["_law_deck_here", "_law_cell", "_law_used", "_law_scope", "_law_deep", "_law_room"]) (sp := spBrs 0) (fun _ _ _ _ _ _ us hl => match us, hl with | [_, _, _, _, _, _], _ => rfl) fun vs H Q E h => h).ex
    exact ⟨f, fd, ps, ds, F.mono (by decide), a, b, c, d⟩
  | d + 1, h => ok_br_step T (d := d + 1) h (by
      have := ok_br T d (by omega)
      have e : 3 + d = 2 + (d + 1) := by omega
      rw [e] at this
      exact this)
theorem sc_g_tree_program : FnScope ["_law_deck_here", "_law_most", "_law_cell", "_law_used", "_law_room", "_law_one", "_law_other", "_law_steps", "_law_k", "_law_atom_here", "_law_name_here"] ["_law_deck_here", "_law_most"] (defScope s_g_tree_program) := C8.fnScope_by (by decide +kernel)
theorem ok_tree_program (T : TX K mg) : C8.Cal P w K mg base 7 "_law_tree_program" spTree [] := by
  have c__law_next : C8.Cal P w K mg base 1 "_law_next" spNext [] := ok_next T
  have c__law_name : C8.Cal P w K mg base 2 "_law_name" (spName gName) [] := ok_name T
  have c__law_branches : C8.Cal P w K mg base 6 "_law_branches" (spBr 3) [] := ok_br T 3 (by decide)
  refine cal_of T.f_g_tree_program T.g__law_tree_program sc_g_tree_program (fun _ _ _ _ _ _ us hl => match us, hl with | [_, _], _ => rfl) (fun vs H Q E h => ?_) (fun cdv A outer s H vs Q E hr h => ?_)
  · obtain ⟨a, l, most, rfl, _⟩ := h
    rfl
  obtain ⟨a, l, most, rfl, hm31, hm60, ha, k⟩ := h
  refine ⟨_, (pss_cons (ps_set (i := 2) sc_g_tree_program.nd rfl (by first | exact Or.inl rfl | exact Or.inr rfl) (C8.pe_c c__law_next hr (by omega) (by rfl) (pa_cons (pv 0) (pa_cons pe_int pa_nil))))
      (pss_cons (ps_set (i := 3) sc_g_tree_program.nd rfl (by first | exact Or.inl rfl | exact Or.inr rfl) (pe_lst (pa_cons (C8.pe_c c__law_name hr (by omega) (by rfl) (pa_cons (pv 2) (pa_cons pe_int pa_nil))) pa_nil)))
      (pss_cons (ps_set (i := 4) sc_g_tree_program.nd rfl (by first | exact Or.inl rfl | exact Or.inr rfl) (pe_op op_rep (pe_lst (pa_cons pe_int pa_nil)) (pe_op op_sub (pv 1) pe_int)))
      (pss_cons (ps_set (i := 5) sc_g_tree_program.nd rfl (by first | exact Or.inl rfl | exact Or.inr rfl) (C8.pe_c c__law_branches hr (by omega) (by rfl) (pa_cons (pv 0) (pa_cons (pv 2) (pa_cons (pv 3) (pa_cons (pe_slice sl_list (pv 3) po_none (po_some pe_int)) (pa_cons pe_int (pa_cons (pv 4) pa_nil))))))))
      (pss_cons (ps_set (i := 6) sc_g_tree_program.nd rfl (by first | exact Or.inl rfl | exact Or.inr rfl) (C8.pe_c c__law_branches hr (by omega) (by rfl) (pa_cons (pv 0) (pa_cons (pv 2) (pa_cons (pv 3) (pa_cons (pe_slice sl_list (pv 3) po_none (po_some pe_int)) (pa_cons pe_int (pa_cons (pv 4) pa_nil))))))))
      (pss_cons (ps_set (i := 7) sc_g_tree_program.nd rfl (by first | exact Or.inl rfl | exact Or.inr rfl) (pe_lst pa_nil))
      (pss_cons (ps_for PassesOwn.never rfl (pi_range1 (by rfl) T.z_range (pa_cons (pe_callB call_len_seq (by rfl) T.z_len (by decide +kernel) (pa_cons (pv 4) pa_nil)) pa_nil)) (pg_name (i := 8) sc_g_tree_program.nd rfl (by first | exact Or.inl rfl | exact Or.inr rfl))
        (pss_cons (ps_set (i := 10) sc_g_tree_program.nd rfl (by first | exact Or.inl rfl | exact Or.inr rfl) (C8.pe_c c__law_name hr (by omega) (by rfl) (pa_cons (pv 2) (pa_cons (pe_callB call_len_seq (by rfl) T.z_len (by decide +kernel) (pa_cons (pv 3) pa_nil)) pa_nil))))
      (pss_cons (ps_expr (pe_bm PySem.F.plainAttrs_list PySem.F.slot_list_append PySem.F.type_list_append mt_append (pv 7) (pa_cons (pe_tup (pa_cons pe_str (pa_cons (pv 10) (pa_cons pe_str (pa_cons (pe_tup (pa_cons (pe_tup (pa_cons pe_str (pa_cons (pv 8) pa_nil))) (pa_cons (pe_tup (pa_cons pe_str (pa_cons (pe_ix (r := rIxL K) ix_list (pv 3) pe_int (fun _ _ => rfl)) pa_nil))) pa_nil))) pa_nil))))) pa_nil)))
      (pss_one (ps_expr (pe_bm PySem.F.plainAttrs_list PySem.F.slot_list_append PySem.F.type_list_append mt_append (pv 3) (pa_cons (pv 10) pa_nil)))))))
      (pss_cons (ps_set (i := 9) sc_g_tree_program.nd rfl (by first | exact Or.inl rfl | exact Or.inr rfl) (pe_tup (pa_cons pe_str (pa_cons (pe_ix (r := rIxL K) ix_list (pe_lst (pa_cons (pe_ix (r := rIxL K) ix_list (pv 3) pe_int (fun _ _ => rfl)) (pa_cons (pe_ix (r := rIxL K) ix_list (pv 3) (pe_un un_neg pe_int) (fun _ _ => rfl)) pa_nil))) (pe_callTy call_int1 (by rfl) T.z_int (by decide +kernel) (pa_cons (pe_cmpR op_gt (pe_callB call_len_seq (by rfl) T.z_len (by decide +kernel) (pa_cons (pv 7) pa_nil)) pe_int (nomark _)) pa_nil)) (fun _ _ => rfl)) pa_nil))))
      (pss_one (ps_ret (pe_tup (pa_cons (pe_tup (pa_cons (C8.pe_c c__law_name hr (by omega) (by rfl) (pa_cons (pv 2) (pa_cons pe_int pa_nil))) (pa_cons (pe_tup (pa_cons (pe_ix (r := rIxL K) ix_list (pv 3) pe_int (fun _ _ => rfl)) pa_nil)) (pa_cons (pe_tup (pa_cons (pe_callTy call_tuple_of (by rfl) T.z_tuple (by decide +kernel) (pa_cons (pv 7) pa_nil)) (pa_cons (pe_tup (pa_cons pe_str (pa_cons (pv 9) (pa_cons (pv 5) (pa_cons (pv 6) pa_nil))))) pa_nil))) pa_nil)))) pa_nil)))))))))))), ?_⟩
  unfold gTree at k
  simp only [] at k
  refine ⟨_, rfl, a, l, 1000000007, rfl, ha, by decide, fun H1 f1 h1 => ?_⟩
  generalize hc : (gNext l 1000000007).1 = c at *
  generalize hl1 : (gNext l 1000000007).2 = l1 at *
  refine ⟨_, rfl, c, 0, rfl, by decide, fun H2 f2 => ⟨sl1, fun u hu => ?_⟩⟩
  have h2 := f2.at h1
  have nua : u ≠ a := fun z => by rw [z, h2] at hu; cases hu
  refine ⟨sl1, fun z0 hz0 => ⟨_, rfl, _, _, rfl, rfl, z0, _, [.int 0], rfl, rfl, upd_same, by omega, by omega, ?_, fun rm hrm => ?_⟩⟩
  · show 1 * ((most : Int) - 31).toNat ≤ sizeLine
    exact sl_le (by omega)
  have ez : (List.replicate ((most : Int) - 31).toNat [V.int 0]).flatten = zeros (most - 31) := by
    have e : ((most : Int) - 31).toNat = most - 31 := by omega
    rw [e]
    unfold zeros
    rw [show [V.int 0] = List.replicate 1 (V.int 0) from rfl, List.flatten_replicate_replicate, Nat.mul_one]
  have fq := fun o => (Fr.new (o := .lst [V.int 0]) hz0).trans (Fr.new (S := []) (o := o) hrm)
  have h3 := fun o => (fq o).at ((Fr.new (S := []) (o := .lst [V.str (gName c 0)]) hu).at h2)
  have u3 := fun o => (fq o).at (upd_same (H := H2) (a := u) (o := .lst [V.str (gName c 0)]))
  have hu1 : H u = none := (f1.trans (Fr.mono f2 (by simp))).free hu (by simp; exact nua)
  have nra : rm ≠ a := fun z => by rw [z, (Fr.new (S := []) (o := .lst [V.int 0]) hz0).at ((Fr.new (S := []) (o := .lst [V.str (gName c 0)]) hu).at h2)] at hrm; cases hrm
  have nru : rm ≠ u := fun z => by rw [z, (Fr.new (S := []) (o := .lst [V.int 0]) hz0).at upd_same] at hrm; cases hrm
  have f3 := fun o => (f1.trans (Fr.mono f2 (by simp))).trans ((Fr.new (S := [a]) (o := .lst [V.str (gName c 0)]) hu).trans (Fr.mono (fq o) (by simp)))
  have hrm1 : H rm = none := ((f1.trans (Fr.mono f2 (by simp))).trans ((Fr.new (S := [a]) hu).trans (Fr.new hz0))).free hrm (by simp; exact nra)
  rw [ez]
  replace h3 := h3 (.lst (zeros (most - 31)))
  replace u3 := u3 (.lst (zeros (most - 31)))
  replace f3 := f3 (.lst (zeros (most - 31)))
  have r3 : upd (upd (upd H2 u (.lst [V.str (gName c 0)])) z0 (.lst [V.int 0])) rm (.lst (zeros (most - 31))) rm = some (.lst (zeros (most - 31))) := upd_same
  clear fq hz0 hrm
  generalize upd (upd (upd H2 u (.lst [V.str (gName c 0)])) z0 (.lst [V.int 0])) rm (.lst (zeros (most - 31))) = H3 at *
  have n1 : u ∉ [a] := by simp; exact nua
  have pl := gBr_len c 3 [gName c 0] [gName c 0] l1 (most - 31)
  have ph := gBr_head c (gName c 0) 3 [gName c 0] [gName c 0] l1 (most - 31) rfl
  have one1 : [gName c 0].length = 1 := rfl
  rw [one1] at pl
  refine ⟨_, rfl, _, rfl, _, rfl, _, rfl, 1, rfl, u, _, rfl, SqL.of u3, fun sa hsa => ⟨_, rfl, a, u, sa, rm, l1, [gName c 0], [gName c 0], most - 31, c, rfl, LI.new h3 hsa, (Fr.new (S := []) hsa).at u3, ?_, (Fr.new (S := []) hsa).at r3, nua, nra, nru, by rw [one1]; omega, Nat.le_refl _, Nat.le_refl _, ?_⟩⟩
  · rw [upd_same, show cutV [V.str (gName c 0)] none (some 1) = [V.str (gName c 0)] from cut_head (l := [gName c 0]) rfl]
    rfl
  generalize gBr c 3 [gName c 0] [gName c 0] l1 (most - 31) = p at *
  intro H4 v1 f4 a1 a2 a3 rv1
  have f4' : Fr [a, u, rm] H3 H4 := (Fr.new hsa).trans f4
  have ql := gBr_len c 3 p.us [gName c 0] p.l p.room
  have qh := gBr_head c (gName c 0) 3 p.us [gName c 0] p.l p.room ph
  refine ⟨_, rfl, _, rfl, _, rfl, _, rfl, 1, rfl, u, _, rfl, SqL.of a2, fun sb hsb => ⟨_, rfl, a, u, sb, rm, p.l, p.us, [gName c 0], p.room, c, rfl, LI.new a1 hsb, (Fr.new (S := []) hsb).at a2, ?_, (Fr.new (S := []) hsb).at a3, nua, nra, nru, by omega, Nat.le_refl _, by rw [one1]; omega, ?_⟩⟩
  · rw [upd_same, cut_head ph]
    rfl
  generalize hqq : gBr c 3 p.us [gName c 0] p.l p.room = q at *
  intro H5 v2 f5 b1 b2 b3 rv2
  have f5' : Fr [a, u, rm] H4 H5 := (Fr.new hsb).trans f5
  have i5 : Imm H4 H5 := f5'.imm3 a1 a2 a3
  replace rv1 := rv1.mono i5
  have f35 : Fr [a] H H5 := f3.forget (f4'.trans f5') fun b hb => by
    rcases List.mem_cons.mp hb with e | hb
    · exact .inl (by rw [e]; simp)
    rcases List.mem_cons.mp hb with e | hb
    · exact .inr (by rw [e]; exact hu1)
    · exact .inr (by rw [List.mem_singleton.mp hb]; exact hrm1)
  clear f4 f5 f4' f5' i5 f3 hsa hsb
  refine ⟨sl0, fun pp hpp => ?_⟩
  have npa : pp ≠ a := fun z => by rw [z, b1] at hpp; cases hpp
  have npu : pp ≠ u := fun z => by rw [z, b2] at hpp; cases hpp
  have npr : pp ≠ rm := fun z => by rw [z, b3] at hpp; cases hpp
  have hpp1 : H pp = none := f35.free hpp (by simp; exact npa)
  have ezl : (zeros q.room).length = q.room := List.length_replicate
  refine ⟨_, rfl, rm, _, rfl, .inl (SqL.of ((Fr.new (S := []) hpp).at b3)), ((q.room : Nat) : Int), by rw [ezl], by omega, by omega, ?_⟩
  have len_tree : ∀ i, (treeUs c q.us i).length = q.us.length + i := fun i => by rw [treeUs, List.length_append, List.length_map, List.length_range]
  have head_tree : ∀ i, (treeUs c q.us i).head? = some (gName c 0) := fun i => by rw [treeUs, List.head?_append, qh]; rfl
  refine for_range (lo := 0) (n := q.room) (fun i σ H6 => ∃ vk vn xs, σ = [some (V.ref a), some (V.int (most : Int)), some (V.int c), some (V.ref u), some (V.ref rm), some v1, some v2, some (V.ref pp), vk, none, vn] ∧
    LI H6 a q.l ∧ H6 u = some (.lst ((treeUs c q.us i).map V.str)) ∧ H6 pp = some (.lst xs) ∧ RepL H6 ((treeSteps c (gName c 0) q.us.length i).map Step.d) xs ∧ Rep H6 p.b.d v1 ∧ Rep H6 q.b.d v2 ∧ Fr [a] H H6)
    ⟨none, none, [], rfl, LI.new b1 hpp, by rw [treeUs, List.range_zero, List.map_nil, List.append_nil]; exact (Fr.new (S := []) hpp).at b2, upd_same, RepL.nil, rv1.new hpp, rv2.new hpp, f35.trans (Fr.new hpp)⟩ ?_ ?_
  · rintro i σ H6 hi ⟨vk, vn, xs, rfl, g1, g2, g3, g4, g5, g6, g7⟩
    have xl : xs.length = i := by rw [g4.length, List.length_map, treeSteps, List.length_map, List.length_range]
    have lt := len_tree i
    have e0 := head_at (head_tree i)
    have et : treeUs c q.us (i + 1) = treeUs c q.us i ++ [gName c (q.us.length + i)] := by
      rw [treeUs, treeUs, List.range_succ, List.map_append, List.append_assoc]
      rfl
    have es : treeSteps c (gName c 0) q.us.length (i + 1) = treeSteps c (gName c 0) q.us.length i ++ [treeStep c (gName c 0) q.us.length i] := by
      rw [treeSteps, treeSteps, List.range_succ, List.map_append]
      rfl
    rw [et, es]
    generalize treeUs c q.us i = tu at *
    refine ⟨_, rfl, _, rfl, u, _, rfl, .inl (SqL.of g2), c, q.us.length + i, by rw [List.length_map, lt]; rfl, by omega, fun H7 f7 => ?_⟩
    refine ⟨_, rfl, .inl ⟨rfl, _, SqL.of (f7.at g3)⟩, _, rfl, _, rfl, ?_⟩
    rw [Int.zero_add]
    refine ⟨sl2, fun p1 hp1 => ⟨_, rfl, u, _, 0, _, rfl, rfl, SqL.of ((Fr.new (S := []) hp1).at (f7.at g2)), e0, sl2, fun p2 hp2 => ⟨sl2, fun p3 hp3 => ⟨sl4, fun p4 hp4 => ?_⟩⟩⟩⟩
    have y1 := rep_new hp1 (.cons (.str (x := "is")) (.one (.int (i := (i : Int)))))
    have y2 := rep_new hp2 (.cons (.str (x := "of")) (.one (.str (x := gName c 0))))
    have y3 := rep_new hp3 (.cons (y1.new hp2) (.one y2))
    have y4 := rep_new hp4 (.cons (.str (x := "let")) (.cons (.str (x := gName c (q.us.length + i))) (.cons (.str (x := "less")) (.one y3))))
    have fz := f7.trans ((Fr.new hp1).trans ((Fr.new hp2).trans ((Fr.new hp3).trans (Fr.new (S := []) (o := .tup [.str "let", .str (gName c (q.us.length + i)), .str "less", .ref p3]) hp4))))
    have c1 := fz.at g1
    have c2 := fz.at g2
    have c3 := fz.at g3
    have c4 := g4.mono fz.imm0
    have c5 := g5.mono fz.imm0
    have c6 := g6.mono fz.imm0
    have c7 := g7.trans (Fr.mono fz (by simp))
    refine ⟨pp, _, _, rfl, rfl, c3, by rw [xl]; exact sl_lt (by omega), ?_⟩
    generalize upd (upd (upd (upd H7 p1 _) p2 _) p3 _) p4 (.tup [.str "let", .str (gName c (q.us.length + i)), .str "less", .ref p3]) = H8 at *
    have d2 : upd H8 pp (.lst (xs ++ [V.ref p4])) u = _ := (upd_ne npu.symm).trans c2
    refine ⟨_, rfl, .inl ⟨rfl, _, SqL.of d2⟩, _, rfl, u, _, _, rfl, rfl, d2, by rw [List.length_map]; exact sl_lt (by omega), ?_⟩
    have m1 : Imm H8 (upd H8 pp (.lst (xs ++ [V.ref p4]))) := imm_upd (soft_lst c3)
    have m2 : Imm H8 (upd (upd H8 pp (.lst (xs ++ [V.ref p4]))) u (.lst (tu.map V.str ++ [V.str (gName c (q.us.length + i))]))) := m1.trans (imm_upd (soft_lst d2))
    refine ⟨_, _, xs ++ [V.ref p4], rfl, ?_, ?_, ?_, ?_, c5.mono m2, c6.mono m2, (c7.put_new hpp1).put_new hu1⟩
    · show upd _ _ _ a = _
      rw [upd_ne nua.symm, upd_ne npa.symm]
      exact c1
    · rw [upd_same, List.map_append]
      rfl
    · rw [upd_ne npu]
      exact upd_same
    · rw [List.map_append]
      exact (c4.snoc y4).mono m2
  rintro σ H6 ⟨vk, vn, xs, rfl, g1, g2, g3, g4, g5, g6, g7⟩
  have xl : xs.length = q.room := by rw [g4.length, List.length_map, treeSteps, List.length_map, List.length_range]
  have lt := len_tree q.room
  have e0 := head_at (head_tree q.room)
  generalize treeUs c q.us q.room = tu at *
  have e1 := atI_last (l := tu) (by omega)
  refine ⟨_, rfl, u, _, 0, _, rfl, rfl, SqL.of g2, e0, _, rfl, 1, rfl, u, _, -1, _, rfl, rfl, SqL.of g2, e1, sl2, fun q1 hq1 => ?_⟩
  have fq := Fr.new (S := []) (o := .lst [V.str (gName c 0), V.str (lastS tu)]) hq1
  refine ⟨_, rfl, pp, _, rfl, .inl (SqL.of (fq.at g3)), _, _, rfl, rfl, .inr ⟨_, rfl, ?_⟩⟩
  have ei : atI [V.str (gName c 0), V.str (lastS tu)] (if decide ((0 : Int) < (xs.length : Int)) = true then 1 else 0) = some (.str (if 0 < q.room then lastS tu else gName c 0)) := by
    rw [xl]
    by_cases z : 0 < q.room
    · rw [if_pos z, if_pos (decide_eq_true (by omega))]
      rfl
    · rw [if_neg z, if_neg (fun y => z (by have := of_decide_eq_true y; omega))]
      rfl
  refine ⟨q1, _, _, _, rfl, rfl, SqL.of upd_same, ei, sl2, fun q2 hq2 => ?_⟩
  have y0 := rep_new hq2 (.cons (.str (x := "of")) (.one (.str (x := (if 0 < q.room then lastS tu else gName c 0)))))
  have fq2 := fun o => fq.trans (Fr.new (S := []) (o := o) hq2)
  refine ⟨_, rfl, c, 90, rfl, by decide, fun H7 f7 => ?_⟩
  refine ⟨_, rfl, u, _, 0, _, rfl, rfl, SqL.of (f7.at ((fq2 _).at g2)), e0, sl1, fun p1 hp1 => ⟨_, rfl, pp, _, rfl, .inl ⟨SqL.of ((Fr.new (S := []) hp1).at (f7.at ((fq2 _).at g3))), fun p2 hp2 => ⟨_, rfl, _, rfl, _, rfl, sl4, fun p3 hp3 => ⟨sl2, fun p4 hp4 => ⟨sl3, fun p5 hp5 => ⟨sl1, fun p6 hp6 => ?_⟩⟩⟩⟩⟩⟩⟩
  have fa := (fq2 (.tup [V.str "of", V.str (if 0 < q.room then lastS tu else gName c 0)])).trans (f7.trans ((Fr.new (o := .tup [V.str (gName c 0)]) hp1)))
  have fb := fun o => fa.trans ((Fr.new hp2).trans ((Fr.new hp3).trans ((Fr.new hp4).trans ((Fr.new hp5).trans (Fr.new (S := []) (o := o) hp6)))))
  have y1 := rep_new hp1 (.one (.str (x := gName c 0)))
  have y2 := rep_new hp2 (g4.mono fa.imm0)
  have y3 := rep_new hp3 (.cons (.str (x := "if")) (.cons (((y0.mono f7.imm0).new hp1).new hp2) (.cons ((g5.mono fa.imm0).new hp2) (.one ((g6.mono fa.imm0).new hp2)))))
  have y4 := rep_new hp4 (.cons (y2.new hp3) (.one y3))
  have y5 := rep_new hp5 (.cons (.str (x := gName c 90)) (.cons (((y1.new hp2).new hp3).new hp4) (.one y4)))
  have y6 := rep_new hp6 (.one y5)
  exact k _ _ (g7.trans (Fr.mono (fb _) (by simp))) ((fb _).at g1) y6
theorem sc_g_any_program : FnScope ["_law_deck_here", "_law_way"] ["_law_deck_here"] (defScope s_g_any_program) := C8.fnScope_by (by decide +kernel)
theorem ok_any_program (T : TX K mg) : C8.Cal P w K mg base 13 "_law_any_program" (spProg gAny) [] := by
  have c__law_next : C8.Cal P w K mg base 1 "_law_next" spNext [] := ok_next T
  have c__law_rows_program : C8.Cal P w K mg base 3 "_law_rows_program" (spProg gRows) [] := ok_rows_program T
  have c__law_deep_program : C8.Cal P w K mg base 3 "_law_deep_program" (spProg gDeep) [] := ok_deep_program T
  have c__law_long_program : C8.Cal P w K mg base 3 "_law_long_program" (spProg gLong) [] := ok_long_program T
  have c__law_wide_program : C8.Cal P w K mg base 4 "_law_wide_program" (spProg gWide) [] := ok_wide_program T
  have c__law_tree_program : C8.Cal P w K mg base 7 "_law_tree_program" spTree [] := ok_tree_program T
  have c__law_program : C8.Cal P w K mg base 12 "_law_program" (spProg gProgram) [] := ok_program T
  refine cal_of T.f_g_any_program T.g__law_any_program sc_g_any_program (fun _ _ _ _ _ _ us hl => match us, hl with | [_], _ => rfl) (fun vs H Q E h => ?_) (fun cdv A outer s H vs Q E hr h => ?_)
  · obtain ⟨a, l, rfl, _⟩ := h
    rfl
  obtain ⟨a, l, rfl, ha, k⟩ := h
  refine ⟨_, (pss_cons (ps_set (i := 1) sc_g_any_program.nd rfl (by first | exact Or.inl rfl | exact Or.inr rfl) (C8.pe_c c__law_next hr (by omega) (by rfl) (pa_cons (pv 0) (pa_cons pe_int pa_nil))))
      (pss_cons (ps_if (pt_cmpR op_eq (pv 1) pe_int (nomark _)) (pss_one (ps_ret (C8.pe_c c__law_rows_program hr (by omega) (by rfl) (pa_cons (pv 0) pa_nil)))) pss_nil)
      (pss_cons (ps_if (pt_cmpR op_eq (pv 1) pe_int (nomark _)) (pss_one (ps_ret (C8.pe_c c__law_deep_program hr (by omega) (by rfl) (pa_cons (pv 0) pa_nil)))) pss_nil)
      (pss_cons (ps_if (pt_cmpR op_eq (pv 1) pe_int (nomark _)) (pss_one (ps_ret (C8.pe_c c__law_long_program hr (by omega) (by rfl) (pa_cons (pv 0) pa_nil)))) pss_nil)
      (pss_cons (ps_if (pt_cmpR op_eq (pv 1) pe_int (nomark _)) (pss_one (ps_ret (C8.pe_c c__law_wide_program hr (by omega) (by rfl) (pa_cons (pv 0) pa_nil)))) pss_nil)
      (pss_cons (ps_if (PW.pt (pw_or (pt_cmpR op_eq (pv 1) pe_int (nomark _)) (pw_or1 (pt_cmpR op_eq (pv 1) pe_int (nomark _))))) (pss_one (ps_ret (C8.pe_c c__law_tree_program hr (by omega) (by rfl) (pa_cons (pv 0) (pa_cons (pe_op op_add pe_int (pv 1)) pa_nil))))) pss_nil)
      (pss_one (ps_ret (C8.pe_c c__law_program hr (by omega) (by rfl) (pa_cons (pv 0) pa_nil)))))))))), ?_⟩
  unfold gAny at k
  simp only [] at k
  refine ⟨_, rfl, a, l, 12, rfl, ha, by decide, fun H1 f1 h1 => ?_⟩
  generalize hc : (gNext l 12).1 = c at *
  generalize hl1 : (gNext l 12).2 = l1 at *
  have kk : ∀ {f : Prog × List Int}, (∀ H' v, Fr [a] H H' → LI H' a f.2 → Rep H' (progD f.1) v → Q v H') → ∀ H' v, Fr [a] H1 H' → LI H' a f.2 → Rep H' (progD f.1) v → Q v H' := fun k0 H' v a1 a2 a3 => k0 H' v (f1.trans a1) a2 a3
  refine ⟨_, rfl, rfl, _, rfl, ifI (fun q1 => ?_) fun q1 => ?_⟩
  · rw [if_pos q1] at k
    exact ⟨_, rfl, a, l1, rfl, h1, kk k⟩
  rw [if_neg q1] at k
  refine ⟨_, rfl, rfl, _, rfl, ifI (fun q2 => ?_) fun q2 => ?_⟩
  · rw [if_pos q2] at k
    exact ⟨_, rfl, a, l1, rfl, h1, kk k⟩
  rw [if_neg q2] at k
  refine ⟨_, rfl, rfl, _, rfl, ifI (fun q3 => ?_) fun q3 => ?_⟩
  · rw [if_pos q3] at k
    exact ⟨_, rfl, a, l1, rfl, h1, kk k⟩
  rw [if_neg q3] at k
  refine ⟨_, rfl, rfl, _, rfl, ifI (fun q4 => ?_) fun q4 => ?_⟩
  · rw [if_pos q4] at k
    exact ⟨_, rfl, a, l1, rfl, h1, kk k⟩
  rw [if_neg q4] at k
  have tree : c = 5 ∨ c = 6 → _ := fun q5 => by
    rw [if_pos q5] at k
    have e : [V.ref a, V.int (54 + c)] = [V.ref a, V.int (((54 + c).toNat : Nat) : Int)] := congrArg (fun z => [V.ref a, V.int z]) (by omega)
    exact (⟨a, l1, (54 + c).toNat, e, by omega, by omega, h1, kk k⟩ : spTree [V.ref a, V.int (54 + c)] H1 Q E)
  refine ⟨_, rfl, rfl, _, rfl, ifI (fun q5 => ?_) fun q5 => ⟨_, rfl, rfl, _, rfl, ifI (fun q6 => ?_) fun q6 => ?_⟩⟩
  · exact ⟨_, rfl, _, rfl, _, _, rfl, rfl, tree (.inl q5)⟩
  · exact ⟨_, rfl, _, rfl, _, _, rfl, rfl, tree (.inr q6)⟩
  · rw [if_neg (fun z => z.elim q5 q6)] at k
    exact ⟨_, rfl, a, l1, rfl, h1, kk k⟩
end
end FK
/-! FKG13 -/
set_option maxHeartbeats 400000
namespace FK
open PySem PySem.Spec PyProof.Rows L2
open TL (tl)
theorem sqL_fr {K : PySem.W.Frag} {H H' : Hp} {a : Addr} {xs : List V} (h : SqL K H a xs) (f : Fr [] H H') : SqL K H' a xs :=
  h.elim (fun h => .inl (h.elim (fun h => .inl (f.at h)) fun ⟨o, h⟩ => .inr ⟨o, f.at h⟩)) fun h => .inr h
theorem cut_ints (l : List Int) (lo hi : Option Int) : cutV (l.map V.int) lo hi = ((l.drop (HT.sIx l.length 0 lo)).take (HT.sIx l.length l.length hi - HT.sIx l.length 0 lo)).map V.int := by
  unfold cutV
  rw [List.length_map, List.map_take, List.map_drop]
def spDeck (K : PySem.W.Frag) : Sp := fun vs H Q _ => ∃ (a : Addr) (ns : List Int), vs = [.ref a] ∧ SqL K H a (ns.map V.int) ∧ ns.length ≤ 63 ∧ ∀ H' p l, Fr [] H H' → LI H' p l → Q (.ref p) H'
section
variable {P : Program} {w : World} {K : PySem.W.Frag} {mg : Str → Option Value} {base : Heap}
theorem sc_g_deck : FnScope ["_law_script", "_law_deck_here", "_law_k", "_law_cell", "_law_number_here"] ["_law_script"] (defScope s_g_deck) := C8.fnScope_by (by decide +kernel)
theorem ok_deck (T : TX K mg) : C8.Cal P w K mg base 1 "_law_deck" (spDeck K) [] := by
  refine cal_of T.f_g_deck T.g__law_deck sc_g_deck (fun _ _ _ _ _ _ us hl => match us, hl with | [_], _ => rfl) (fun vs H Q E h => ?_) (fun cdv A outer s H vs Q E hr h => ?_)
  · obtain ⟨a, ns, rfl, _⟩ := h
    rfl
  obtain ⟨a, ns, rfl, ha, h63, k⟩ := h
  refine ⟨_, (pss_cons (ps_set (i := 1) sc_g_deck.nd rfl (by first | exact Or.inl rfl | exact Or.inr rfl) (pe_lst pa_nil))
      (pss_cons (ps_if (PW.pt (pw_and (pt_cmpR op_gt (pe_callB call_len_seq (by rfl) T.z_len (by decide +kernel) (pa_cons (pv 0) pa_nil)) pe_int (nomark _)) (pw_and1 (pt_cmpR op_eq (pe_op op_mod (pe_ix (r := rIxL K) ix_list (pv 0) pe_int (fun _ _ => rfl)) pe_int) pe_int (nomark _))))) (pss_cons (ps_for PassesOwn.never rfl (pi_list (pe_slice sl_list (pv 0) (po_some pe_int) (po_some pe_int))) (pg_name (i := 3) sc_g_deck.nd rfl (by first | exact Or.inl rfl | exact Or.inr rfl))
        (pss_cons (ps_set (i := 4) sc_g_deck.nd rfl (by first | exact Or.inl rfl | exact Or.inr rfl) (pe_op op_mod (pv 3) (pe_op op_pow pe_int pe_int)))
      (pss_one (ps_for PassesOwn.never rfl (pi_range1 (by rfl) T.z_range (pa_cons pe_int pa_nil)) (pg_name (i := 2) sc_g_deck.nd rfl (by first | exact Or.inl rfl | exact Or.inr rfl))
        (pss_one (ps_if (PW.pt (pw_or (pt_cmpR op_eq (pv 2) pe_int (nomark _)) (pw_or1 (pt_cmpR op_gt (pv 4) pe_int (nomark _))))) (pss_cons (ps_expr (pe_bm PySem.F.plainAttrs_list PySem.F.slot_list_append PySem.F.type_list_append mt_append (pv 1) (pa_cons (pe_op op_mod (pv 4) pe_int) pa_nil)))
      (pss_one (ps_set (i := 4) sc_g_deck.nd rfl (by first | exact Or.inl rfl | exact Or.inr rfl) (pe_op op_fdivW (pv 4) pe_int)))) pss_nil))))))
      (pss_one (ps_ret (pe_slice sl_list (pv 1) po_none (po_some pe_int))))) pss_nil)
      (pss_cons (ps_for PassesOwn.never rfl (pi_range1 (by rfl) T.z_range (pa_cons pe_int pa_nil)) (pg_name (i := 2) sc_g_deck.nd rfl (by first | exact Or.inl rfl | exact Or.inr rfl))
        (pss_cons (ps_set (i := 3) sc_g_deck.nd rfl (by first | exact Or.inl rfl | exact Or.inr rfl) (pe_op op_mul pe_int (pv 2)))
      (C8.pss_cut (ps_if (pt_cmpR op_gt (pe_callB call_len_seq (by rfl) T.z_len (by decide +kernel) (pa_cons (pv 0) pa_nil)) pe_int (nomark _)) (pss_one (ps_set (i := 3) sc_g_deck.nd rfl (by first | exact Or.inl rfl | exact Or.inr rfl) (pe_op op_mod (pe_ix (r := rIxL K) ix_list (pv 0) (pe_op op_mod (pv 2) (pe_callB (call_min2 rfl) (by rfl) T.z_min (by decide +kernel) (pa_cons pe_int (pa_cons (pe_callB call_len_seq (by rfl) T.z_len (by decide +kernel) (pa_cons (pv 0) pa_nil)) pa_nil)))) (fun _ _ => rfl)) pe_int))) pss_nil)
      (pss_cons (ps_set (i := 4) sc_g_deck.nd rfl (by first | exact Or.inl rfl | exact Or.inr rfl) (pe_op op_mod (pe_op op_add (pe_op op_add (pe_op op_mul (pv 3) pe_int) (pe_op op_mul pe_int (pv 2))) pe_int) pe_int))
      (pss_cons (ps_set (i := 4) sc_g_deck.nd rfl (by first | exact Or.inl rfl | exact Or.inr rfl) (pe_op op_mod (pe_op op_add (pe_op op_mul (pv 4) (pe_op op_add (pe_op op_fdivW (pv 4) pe_int) (pv 2))) (pe_op op_mul pe_int (pv 2))) pe_int))
      (pss_one (ps_expr (pe_bm PySem.F.plainAttrs_list PySem.F.slot_list_append PySem.F.type_list_append mt_append (pv 1) (pa_cons (pe_op op_mod (pe_op op_add (pe_op op_mul (pv 4) pe_int) (pe_op op_fdivW (pv 4) pe_int)) pe_int) pa_nil)))))))))
      (pss_one (ps_ret (pv 1)))))), ?_⟩
  refine ⟨sl0, fun p hp => ?_⟩
  have f0 : ∀ o, Fr [] H (upd H p o) := fun o => Fr.new hp
  have ha1 := sqL_fr ha (f0 (.lst []))
  have h1 : LI (upd H p (.lst [])) p [] := upd_same
  replace f0 := f0 (.lst [])
  generalize upd H p (.lst []) = H1 at *
  refine (fun (two : _) => ⟨_, rfl, a, _, rfl, .inl ha1, _, _, rfl, rfl, _, rfl, ifB (fun c1 => ⟨_, rfl, a, _, 0, _, rfl, rfl, ha1, atI_ints (by decide) (by rw [List.length_map] at c1; omega), _, _, rfl, rfl, (by show (0 : Int) < 2; decide), rfl, _, rfl, ifI (fun c2 => ?one) fun _ => two⟩) fun _ => two⟩) ?tw
  case one =>
    refine ⟨_, rfl, 1, rfl, 63, rfl, a, _, rfl, ha1, fun q hq => ?_⟩
    have ec := cut_ints ns (some 1) (some 63)
    generalize hcs : (ns.drop (HT.sIx ns.length 0 (some 1))).take (HT.sIx ns.length ns.length (some 63) - HT.sIx ns.length 0 (some 1)) = cs at *
    have lc : cs.length ≤ 63 := by rw [← hcs, List.length_take, List.length_drop]; omega
    have npq : p ≠ q := ne_of_none h1 hq
    have tq : ∀ HH : Hp, upd HH q (.lst (cutV (ns.map V.int) (some 1) (some 63))) q = some (.lst (cs.map V.int)) := fun _ => by rw [ec]; exact upd_same
    refine ⟨q, rfl, ⟨_, SqL.of (tq _)⟩, ?_⟩
    refine for_list (K := K) (a := q) (xs := cs.map V.int) (fun i σ H2 => ∃ v2 v3 v4 l, σ = [some (V.ref a), some (V.ref p), v2, v3, v4] ∧ LI H2 p l ∧ l.length ≤ 60 * i ∧ Fr [] H H2 ∧ H2 q = some (.lst (cs.map V.int)))
      ⟨none, none, none, [], rfl, h1.new hq, by simp, f0.trans (Fr.new hq), tq _⟩ (fun i σ H2 _ ⟨_, _, _, _, _, _, _, _, g⟩ => SqL.of g) ?_ ?_
    · rintro i x σ H2 hx ⟨v2, v3, v4, l, rfl, g1, g2, g3, g4⟩
      rw [List.getElem?_map] at hx
      obtain ⟨c, hc, rfl⟩ := Option.map_eq_some_iff.mp hx
      have hil : i < cs.length := by
        by_cases z : i < cs.length
        · exact z
        · rw [List.getElem?_eq_none (by omega)] at hc; cases hc
      refine ⟨_, rfl, _, _, rfl, rfl, ⟨by decide, by decide, by decide⟩, _, _, rfl, rfl, (by show (0 : Int) < 2147483647 ^ 60; exact Int.pow_pos (by decide)), ?_⟩
      refine ⟨60, rfl, by decide, by decide, ?_⟩
      refine for_range (lo := 0) (n := 60) (fun j σ H3 => ∃ v2 v4 l, σ = [some (V.ref a), some (V.ref p), v2, some (V.int c), some (V.int v4)] ∧ LI H3 p l ∧ l.length ≤ 60 * i + j ∧ Fr [] H H3 ∧ H3 q = some (.lst (cs.map V.int)))
        ⟨_, _, l, rfl, g1, by omega, g3, g4⟩ ?_ ?_
      · rintro j σ H3 hj ⟨v2, v4, l3, rfl, e1, e2, e3, e4⟩
        refine (fun (yes : _) => ⟨_, rfl, rfl, _, rfl, ifI (fun _ => yes) fun _ => ⟨_, rfl, _, _, rfl, rfl, _, rfl, ifB (fun _ => yes) fun _ => ?no⟩⟩) ?ys
        case ys =>
          have nl : (l3.map V.int).length < sizeLine := by rw [List.length_map]; exact sl_lt (by omega)
          refine ⟨_, rfl, .inl ⟨rfl, _, SqL.of e1⟩, _, rfl, _, _, rfl, rfl, (by show (0 : Int) < 2147483647; decide), p, _, _, rfl, rfl, e1, nl, _, rfl, _, _, rfl, rfl, wide_div (b := 31) (by decide) (by decide) (by decide) (by decide), _, _, l3 ++ [v4 % 2147483647], rfl, ?_, by rw [List.length_append]; show l3.length + 1 ≤ _; omega, ?_, ?_⟩
          · show upd _ p _ p = _
            rw [upd_same, List.map_append]
            rfl
          · exact Fr.put_new e3 hp
          · rw [upd_ne npq.symm]; exact e4
        case no => exact ⟨_, _, l3, rfl, e1, by omega, e3, e4⟩
      · rintro σ H3 ⟨v2, v4, l3, rfl, e1, e2, e3, e4⟩
        exact ⟨_, _, _, l3, rfl, e1, by omega, e3, e4⟩
    · rintro σ H2 ⟨v2, v3, v4, l, rfl, g1, g2, g3, g4⟩
      refine ⟨_, rfl, 180, rfl, p, _, rfl, SqL.of g1, fun r hr0 => ?_⟩
      exact k _ _ _ (g3.trans (Fr.new hr0)) (by show upd _ r _ r = _; rw [upd_same, cut_ints])
  case tw =>
    refine ⟨180, rfl, by decide, by decide, ?_⟩
    refine for_range (lo := 0) (n := 180) (fun i σ H2 => ∃ v2 v3 v4 l, σ = [some (V.ref a), some (V.ref p), v2, v3, v4] ∧ LI H2 p l ∧ l.length ≤ i ∧ Fr [] H H2)
      ⟨none, none, none, [], rfl, h1, by simp, f0⟩ ?_ ?_
    · rintro i σ H2 hi ⟨v2, v3, v4, l, rfl, g1, g2, g3⟩
      refine ⟨_, rfl, _, _, rfl, rfl, .inl ⟨by decide, by decide⟩, ?_⟩
      refine ⟨fun σ H3 => ∃ v3 v4, σ = [some (V.ref a), some (V.ref p), some (V.int (0 + (i : Int))), some (V.int v3), v4] ∧ H3 = H2, ?_, ?tail⟩
      refine ⟨_, rfl, a, _, rfl, .inl (sqL_fr ha g3), _, _, rfl, rfl, _, rfl, ifB (fun c1 => ?_) fun c1 => ⟨_, _, rfl, rfl⟩⟩
      · rw [List.length_map] at c1
        refine ⟨_, rfl, _, rfl, _, rfl, a, _, rfl, .inl (sqL_fr ha g3), _, _, rfl, _, _, rfl, rfl, ?_, ?_⟩
        · show (0 : Int) < if ((ns.map V.int).length : Int) < 63 then ((ns.map V.int).length : Int) else 63
          rw [List.length_map]
          split <;> omega
        · have mlo : (0 : Int) < (if ((ns.map V.int).length : Int) < 63 then ((ns.map V.int).length : Int) else 63) := by rw [List.length_map]; split <;> omega
          have mhi : (if ((ns.map V.int).length : Int) < 63 then ((ns.map V.int).length : Int) else 63) ≤ (ns.length : Int) := by rw [List.length_map]; split <;> omega
          have e0 := emod_lo (0 + (i : Int)) mlo
          have e1 := emod_hi (0 + (i : Int)) mlo
          exact ⟨a, _, _, _, rfl, rfl, sqL_fr ha g3, atI_ints e0 (by omega), _, _, rfl, rfl, (by show (0 : Int) < 2147483629; decide), _, _, rfl, rfl⟩
      case tail =>
      rintro σ H3 ⟨c, v4', rfl, rfl⟩
      refine ⟨_, rfl, _, _, rfl, rfl, .inr ⟨by decide, by decide⟩, _, rfl, _, _, rfl, rfl, .inl ⟨by decide, by decide⟩, _, _, rfl, rfl, _, _, rfl, rfl, _, _, rfl, rfl, (by show (0 : Int) < 2147483629; decide), ?_⟩
      have b0 := emod_lo (c * 48271 + 7919 * (0 + (i : Int)) + 13) (show (0 : Int) < 2147483629 by decide)
      have b1 := emod_hi (c * 48271 + 7919 * (0 + (i : Int)) + 13) (show (0 : Int) < 2147483629 by decide)
      refine ⟨_, rfl, _, rfl, _, _, rfl, rfl, wide_div (b := 17) (by decide) (by decide) (by decide) (by decide), _, rfl, _, _, rfl, rfl, _, _, rfl, rfl, .inl ⟨by omega, by omega⟩, _, rfl, _, _, rfl, rfl, .inl ⟨by decide, by decide⟩, _, _, rfl, rfl, _, _, rfl, rfl, (by show (0 : Int) < 2147483587; decide), ?_⟩
      have nl : (l.map V.int).length < sizeLine := by rw [List.length_map]; exact sl_lt (by omega)
      refine ⟨_, rfl, .inl ⟨rfl, _, SqL.of g1⟩, _, rfl, _, _, rfl, rfl, .inr ⟨by decide, by decide⟩, _, rfl, _, _, rfl, rfl, wide_div (b := 10) (by decide) (by decide) (by decide) (by decide), _, _, rfl, rfl, _, _, rfl, rfl, (by show (0 : Int) < 2147483647; decide), p, _, _, rfl, rfl, g1, nl, _, _, _, l ++ [((((((c * 48271 + 7919 * (0 + (i : Int)) + 13) % 2147483629) * (((c * 48271 + 7919 * (0 + (i : Int)) + 13) % 2147483629) / 5 + (0 + (i : Int))) + 16807 * (0 + (i : Int))) % 2147483587) * 69621 + ((((c * 48271 + 7919 * (0 + (i : Int)) + 13) % 2147483629) * (((c * 48271 + 7919 * (0 + (i : Int)) + 13) % 2147483629) / 5 + (0 + (i : Int))) + 16807 * (0 + (i : Int))) % 2147483587) / 127) % 2147483647)], rfl, ?_, by rw [List.length_append]; show l.length + 1 ≤ _; omega, Fr.put_new g3 hp⟩
      show upd _ p _ p = _
      rw [upd_same, List.map_append]
      rfl
    · rintro σ H2 ⟨v2, v3, v4, l, rfl, g1, g2, g3⟩
      exact ⟨_, rfl, k _ _ _ g3 g1⟩
end
end FK
/-! FKS1 -/
set_option maxHeartbeats 400000
namespace FK
open PySem PySem.Spec PyProof.Rows L2
open TL (tl)
/-! ### a value's text, twice -/
def spShow (n : Nat) : Sp := fun vs H Q _ => ∃ (v : V) (d : D), vs = [v] ∧ Rep H d v ∧ WfD d ∧ partsD d ≤ n ∧ n ≤ 60 ∧ ∀ H', Fr [] H H' → Q (.str (showD d)) H'
theorem spShow_no : ∀ vs H Q E, ¬ spShow 0 vs H Q E := fun vs H Q E ⟨v, d, _, _, _, h, _⟩ => by have := partsD_pos d; omega
theorem isi_rd {K : PySem.W.Frag} {H : Hp} {v : V} {t : String} (T : String) {b : Bool} (ty : TyX K H v (.type t)) (h : kitB t T = some b) {Q : VK} (q : Q (.bl b) H) : rIsi K [v, .ty T] H Q := ⟨v, .ty T, .type t, .type T, b, rfl, .ty T, ty, kit_ty h, q⟩
theorem kitB_ii : kitB "int" "int" = some true ∧ kitB "int" "str" = some false ∧ kitB "int" "tuple" = some false ∧ kitB "int" "dict" = some false ∧ kitB "int" "bool" = some false := by decide +kernel
theorem kitB_s : kitB "str" "int" = some false ∧ kitB "str" "str" = some true ∧ kitB "str" "tuple" = some false ∧ kitB "str" "dict" = some false := by decide +kernel
theorem kitB_t : kitB "tuple" "int" = some false ∧ kitB "tuple" "str" = some false ∧ kitB "tuple" "tuple" = some true ∧ kitB "tuple" "dict" = some false := by decide +kernel
theorem kitB_d : kitB "dict" "int" = some false ∧ kitB "dict" "str" = some false ∧ kitB "dict" "tuple" = some false ∧ kitB "dict" "dict" = some true := by decide +kernel
theorem log2_ok {i : Int} (h : -(10 ^ 18) < i ∧ i < 10 ^ 18) : i.natAbs.log2 < 1920 := by
  have h1 : i.natAbs < 2 ^ 64 := by omega
  have := PySem.Flt.log2_lt_of (by decide) h1
  omega
theorem strs_len {l : List Str} {n : Nat} (h : (l.map (·.length)).sum ≤ n) (h2 : l.length ≤ n) : (l.map (·.length)).sum + l.length * ("," : Str).length ≤ 2 * n := by
  rw [len1.1, Nat.mul_one]; omega
theorem list_ext_str {l : List Str} {i : Nat} {x : V} (h : (l.map V.str)[i]? = some x) : ∃ y, x = .str y ∧ l[i]? = some y := by
  rw [List.getElem?_map] at h
  cases e : l[i]? with
  | none => rw [e] at h; cases h
  | some y => rw [e] at h; exact ⟨y, (Option.some.inj h).symm, rfl⟩
theorem take_snoc {α : Type} {l : List α} {i : Nat} {x : α} (h : l[i]? = some x) : l.take (i + 1) = l.take i ++ [x] := by
  rw [List.take_add_one, h]
  rfl
theorem show_len_le {d : D} (w : WfD d) {n : Nat} (h : partsD d ≤ n) : (showD d).length ≤ 40 * n := by have := len_show w; omega
/-- a record's part by its word -/
def pairT (l : List (Str × D)) (y : Str) : Str := y ++ (":" : Str) ++ match getK l y with
  | some d => showD d
  | none => Str.empty
theorem pairs_eq {l : List (Str × D)} (n : (l.map (·.1)).Nodup) : (sortS (l.map (·.1))).map (pairT l) = showPairs l := by
  unfold showPairs
  rw [← sortS_keys, showK_eq, ← sortK_map showD, List.map_map, List.map_map]
  refine List.map_congr_left fun p hp => ?_
  have hm : p ∈ l := sortK_mem.mp hp
  show pairT l p.1 = p.1 ++ (":" : Str) ++ showD p.2
  unfold pairT
  rw [getK_mem n hm]
section
variable {P : Program} {w : World} {K : PySem.W.Frag} {mg : Str → Option Value} {base : Heap}
theorem sc_show_value : FnScope ["value", "shown", "word", "one"] ["value"] (defScope s_show_value) := C8.fnScope_by (by decide +kernel)
theorem ok_show_value_step (T : TX K mg) {n k : Nat} (c_show_value : C8.Cal P w K mg base k "show_value" (spShow n) []) : C8.Cal P w K mg base (k + 1) "show_value" (spShow (n + 1)) [] := by
  refine cal_of T.f_show_value T.g_show_value sc_show_value (fun _ _ _ _ _ _ us hl => match us, hl with | [_], _ => rfl) (fun vs H Q E h => ?_) (fun cdv A outer s H vs Q E hr h => ?_)
  · obtain ⟨v, d, rfl, _⟩ := h
    rfl
  obtain ⟨v, d, rfl, hv, wf, hp, h60, k⟩ := h
  have hu := hu_of hr
  obtain ⟨e1, e2, e3, e4, e5, e6, e7⟩ := len1
  refine ⟨_, (pss_cons (ps_if (pt_val (pe_callB L2.call_isi (by rfl) T.z_isinstance (by decide +kernel) (pa_cons (pv 0) (pa_cons (pe_bltn (v := .ty "int") (by rfl) T.z_int (by decide +kernel) rfl) pa_nil)))) (pss_one (ps_ret (pe_callTy call_str_int (by rfl) T.z_str (by decide +kernel) (pa_cons (pv 0) pa_nil)))) pss_nil)
      (pss_cons (ps_if (pt_val (pe_callB L2.call_isi (by rfl) T.z_isinstance (by decide +kernel) (pa_cons (pv 0) (pa_cons (pe_bltn (v := .ty "str") (by rfl) T.z_str (by decide +kernel) rfl) pa_nil)))) (pss_one (ps_ret (pe_op op_add_str pe_str (pv 0)))) pss_nil)
      (pss_cons (ps_if (pt_val (pe_callB L2.call_isi (by rfl) T.z_isinstance (by decide +kernel) (pa_cons (pv 0) (pa_cons (pe_bltn (v := .ty "tuple") (by rfl) T.z_tuple (by decide +kernel) rfl) pa_nil)))) (pss_one (ps_ret (pe_op op_add_str (pe_op op_add_str pe_str (pe_join pe_str (pe_lc (own := [("one", 3)]) (by rfl) sc_show_value.nd (pi_tup (pv 0)) (blkOk_by (own := [("one", 3)]) (N := ["value", "shown", "word", "one"]) (sc := defScope s_show_value) (by decide +kernel)) (fun _ _ _ _ _ => (pg_name (i := 3) sc_show_value.nd rfl (by first | exact Or.inl rfl | exact Or.inr rfl))) (fun _ _ _ _ _ => pts_nil) (fun _ _ _ _ _ => (C8.pe_c c_show_value hr (by omega) (by rfl) (pa_cons (pv 3) pa_nil)))))) pe_str))) pss_nil)
      (pss_cons (ps_setLc (i := 1) (own := [("word", 2)]) (by rfl) sc_show_value.nd rfl rfl (sw_true rfl rfl rfl (by decide +kernel)) (pi_list (pe_callB (call_sortedD rfl) (by rfl) T.z_sorted (by decide +kernel) (pa_cons (pv 0) pa_nil))) (blkOk_by (own := [("word", 2)]) (N := ["value", "shown", "word", "one"]) (sc := defScope s_show_value) (by decide +kernel)) (fun _ _ _ _ _ => (pg_name (i := 2) sc_show_value.nd rfl (by first | exact Or.inl rfl | exact Or.inr rfl))) (fun _ _ _ _ _ => pts_nil) (fun _ _ _ _ _ => (pe_op op_add_str (pe_op op_add_str (pv 2) pe_str) (C8.pe_c c_show_value hr (by omega) (by rfl) (pa_cons (pe_dget hu (pv 0) (pv 2) (fun _ _ => rfl)) pa_nil)))))
      (pss_one (ps_ret (pe_op op_add_str (pe_op op_add_str pe_str (pe_join pe_str (pv 1))) pe_str))))))), ?_⟩
  cases d with
  | int i =>
    cases wf with
    | int hi =>
      rw [rep_int] at hv
      subst hv
      refine ⟨_, rfl, _, _, _, _, _, rfl, .ty _, .base (.int _), kit_ty kitB_ii.1, _, rfl, ?_⟩
      exact ⟨_, rfl, i, rfl, log2_ok hi, by rw [showD_int] at k; exact k H (Fr.refl _ _)⟩
  | str x =>
    cases wf with
    | str hx =>
      rw [rep_str] at hv
      subst hv
      refine ⟨_, rfl, _, _, _, _, _, rfl, .ty _, .base (.str _), kit_ty kitB_s.1, _, rfl, ?_⟩
      refine ⟨_, rfl, _, _, _, _, _, rfl, .ty _, .base (.str _), kit_ty kitB_s.2.1, _, rfl, ?_⟩
      exact ⟨_, rfl, _, _, rfl, rfl, sl_le (by rw [e7]; have := hx.2.1; omega), by rw [showD_str] at k; exact k H (Fr.refl _ _)⟩
  | tup l =>
    cases wf with
    | tup hw =>
      obtain ⟨a, xs, rfl, ha, hx⟩ := hv.t
      rw [partsD] at hp
      have hll := partsL_len l
      refine ⟨_, rfl, _, _, _, _, _, rfl, .ty _, .base (.tup ha), kit_ty kitB_t.1, _, rfl, ?_⟩
      refine ⟨_, rfl, _, _, _, _, _, rfl, .ty _, .base (.tup ha), kit_ty kitB_t.2.1, _, rfl, ?_⟩
      refine ⟨_, rfl, _, _, _, _, _, rfl, .ty _, .base (.tup ha), kit_ty kitB_t.2.2.1, _, rfl, ?_⟩
      refine ⟨⟨_, rfl⟩, _, rfl, a, rfl, ⟨_, sqT_of ha⟩, fun C hC => ?_⟩
      refine lc_tup (K := K) (a := a) (xs := xs) (fun i H1 => Fr [] H H1 ∧ H1 C = some (.lst (((l.take i).map showD).map V.str))) ⟨Fr.new hC, upd_same⟩ (fun i H1 _ ⟨g1, _⟩ => sqT_of (g1.at ha)) (fun i x H1 hi ⟨g1, g2⟩ => ?_) (fun H1 ⟨g1, g2⟩ => ?_)
      · obtain ⟨d', hd, hr'⟩ := hx.at hi
        have hm : d' ∈ l := List.mem_of_getElem? hd
        refine ⟨rfl, _, rfl, x, d', rfl, hr'.mono g1.imm0, hw d' hm, by have := partsL_mem hm; omega, by omega, fun H2 f2 => ?_⟩
        refine ⟨_, f2.at g2, ?_, Fr.put_new (Fr.trans g1 f2) hC, ?_⟩
        · rw [List.length_map, List.length_map, List.length_take]
          exact sl_lt (by omega)
        · rw [upd_same, take_snoc hd, List.map_append, List.map_append]
          rfl
      · rw [hx.length, List.take_length] at g2
        have b1 : ((l.map showD).map (·.length)).sum ≤ 40 * partsL l := by
          rw [List.map_map, partsL_sum, ← sum_mul]
          exact sum_le fun d hd => by have := len_show (hw d hd); show (showD d).length ≤ _; omega
        have b2 := len_join "," (l.map showD)
        rw [List.length_map, e1, Nat.mul_one] at b2
        refine ⟨_, C, l.map showD, rfl, rfl, .inl (SqL.of g2), ?_, ?_⟩
        · rw [List.length_map, e1, Nat.mul_one]; omega
        · refine ⟨_, _, rfl, rfl, ?_, _, _, rfl, rfl, ?_, ?_⟩
          · rw [e2]; exact Nat.le_of_lt (sl_lt (by omega))
          · rw [len_app, e2, e3]; exact Nat.le_of_lt (sl_lt (by omega))
          · rw [showD_tup, showL_eq] at k
            exact k H1 g1
  | dct l =>
    cases wf with
    | dct hn hk hw =>
      obtain ⟨a, ks, rfl, ha, hx⟩ := rep_dct.mp hv
      rw [partsD] at hp
      have hll := partsK_len l
      refine ⟨_, rfl, _, _, _, _, _, rfl, .ty _, .base (.dK ha), kit_ty kitB_d.1, _, rfl, ?_⟩
      refine ⟨_, rfl, _, _, _, _, _, rfl, .ty _, .base (.dK ha), kit_ty kitB_d.2.1, _, rfl, ?_⟩
      refine ⟨_, rfl, _, _, _, _, _, rfl, .ty _, .base (.dK ha), kit_ty kitB_d.2.2.1, _, rfl, ?_⟩
      refine ⟨_, rfl, a, ks, l.map (·.1), rfl, .inl ha, repK_keys hx, by rw [List.length_map]; omega, fun ys q hys hsr hq => ?_⟩
      have eys : ys = sortS (l.map (·.1)) := sortS_unique hys hsr
      have f0 : Fr [] H (upd H q (.lst (ys.map V.str))) := Fr.new hq
      refine ⟨q, rfl, ⟨_, SqL.of upd_same⟩, fun C hC => ?_⟩
      have mem : ∀ {i : Nat} {y : Str}, ys[i]? = some y → ∃ d, getK l y = some d ∧ (y, d) ∈ l := fun {i y} hi => by
        have hm : y ∈ l.map (·.1) := hys.mem_iff.mp (List.mem_of_getElem? hi)
        obtain ⟨p, hp, e⟩ := List.mem_map.mp hm
        subst e
        exact ⟨p.2, getK_mem hn hp, hp⟩
      refine lc_list (K := K) (a := q) (xs := ys.map V.str) (fun i H1 => Fr [] (upd H q (.lst (ys.map V.str))) H1 ∧ H1 C = some (.lst (((ys.take i).map (pairT l)).map V.str))) ⟨Fr.new hC, upd_same⟩ (fun i H1 _ ⟨g1, _⟩ => SqL.of (g1.at upd_same)) (fun i x H1 hi ⟨g1, g2⟩ => ?_) (fun H1 ⟨g1, g2⟩ => ?_)
      · obtain ⟨y, rfl, hy⟩ := list_ext_str hi
        obtain ⟨d', hd, hm⟩ := mem hy
        obtain ⟨x', hx1, hx2⟩ := repK_get hx hd
        have hk8 : y.length ≤ 8 := (hk _ hm).2.1
        have hpd : partsD d' ≤ partsK l := partsK_mem hm
        have hsd := len_show (hw _ hm)
        have hsd : (showD d').length + 10 ≤ 40 * partsD d' := hsd
        have fH : Fr [] H H1 := Fr.trans f0 g1
        refine ⟨rfl, _, rfl, _, _, rfl, rfl, ?_, ?_⟩
        · rw [e6]; exact sl_le (by omega)
        refine ⟨_, rfl, _, rfl, a, x', rfl, by rw [← hx1]; exact DGet.k (k := Sum.inr y) (fH.at ha), x', d', rfl, hx2.mono fH.imm0, hw _ hm, by omega, by omega, fun H2 f2 => ?_⟩
        refine ⟨_, _, rfl, rfl, ?_, _, f2.at g2, ?_, Fr.put_new (Fr.trans g1 f2) hC, ?_⟩
        · exact Nat.le_of_lt (sl_lt (by rw [len_app, e6]; omega))
        · rw [List.length_map, List.length_map, List.length_take, hys.length_eq, List.length_map]
          exact sl_lt (by omega)
        · rw [upd_same, take_snoc hy, List.map_append, List.map_append]
          show _ = some (HO.lst (_ ++ [V.str (pairT l y)]))
          unfold pairT
          rw [hd]
      · rw [List.length_map, List.take_length] at g2
        have ep : ys.map (pairT l) = showPairs l := by rw [eys]; exact pairs_eq hn
        rw [ep] at g2
        have b1 := len_pairs hk fun p hp => len_show (hw p hp)
        have z : (showPairs l).length = l.length := by unfold showPairs; rw [List.length_map, sortK_length, showK_eq, List.length_map]
        have b2 := len_join "," (showPairs l)
        rw [z, e1, Nat.mul_one] at b2
        refine ⟨⟨_, rfl⟩, _, rfl, _, C, showPairs l, rfl, rfl, .inl (SqL.of g2), ?_, ?_⟩
        · rw [z, e1, Nat.mul_one]; omega
        · refine ⟨_, _, rfl, rfl, ?_, _, _, rfl, rfl, ?_, ?_⟩
          · rw [e4]; exact Nat.le_of_lt (sl_lt (by omega))
          · rw [len_app, e4, e5]; exact Nat.le_of_lt (sl_lt (by omega))
          · have e : showD (.dct l) = ("{" : Str) ++ Txt.join "," (showPairs l) ++ ("}" : Str) := showD_dct l
            rw [e] at k
            exact k H1 (Fr.trans f0 g1)
theorem sc_g_text : FnScope ["_law_value_here", "_law_one", "_law_word_here"] ["_law_value_here"] (defScope s_g_text) := C8.fnScope_by (by decide +kernel)
theorem ok_text_step (T : TX K mg) {n k : Nat} (c__law_text : C8.Cal P w K mg base k "_law_text" (spShow n) []) : C8.Cal P w K mg base (k + 1) "_law_text" (spShow (n + 1)) [] := by
  refine cal_of T.f_g_text T.g__law_text sc_g_text (fun _ _ _ _ _ _ us hl => match us, hl with | [_], _ => rfl) (fun vs H Q E h => ?_) (fun cdv A outer s H vs Q E hr h => ?_)
  · obtain ⟨v, d, rfl, _⟩ := h
    rfl
  obtain ⟨v, d, rfl, hv, wf, hp, h60, k⟩ := h
  have hu := hu_of hr
  obtain ⟨e1, e2, e3, e4, e5, e6, e7⟩ := len1
  refine ⟨_, (pss_cons (ps_if (pt_val (pe_callB L2.call_isi (by rfl) T.z_isinstance (by decide +kernel) (pa_cons (pv 0) (pa_cons (pe_bltn (v := .ty "str") (by rfl) T.z_str (by decide +kernel) rfl) pa_nil)))) (pss_one (ps_ret (pe_op op_add_str pe_str (pv 0)))) pss_nil)
      (pss_cons (ps_if (pt_val (pe_callB L2.call_isi (by rfl) T.z_isinstance (by decide +kernel) (pa_cons (pv 0) (pa_cons (pe_bltn (v := .ty "tuple") (by rfl) T.z_tuple (by decide +kernel) rfl) pa_nil)))) (pss_one (ps_ret (pe_op op_add_str (pe_op op_add_str pe_str (pe_join pe_str (pe_lc (own := [("_law_one", 1)]) (by rfl) sc_g_text.nd (pi_tup (pv 0)) (blkOk_by (own := [("_law_one", 1)]) (N := ["_law_value_here", "_law_one", "_law_word_here"]) (sc := defScope s_g_text) (by decide +kernel)) (fun _ _ _ _ _ => (pg_name (i := 1) sc_g_text.nd rfl (by first | exact Or.inl rfl | exact Or.inr rfl))) (fun _ _ _ _ _ => pts_nil) (fun _ _ _ _ _ => (C8.pe_c c__law_text hr (by omega) (by rfl) (pa_cons (pv 1) pa_nil)))))) pe_str))) pss_nil)
      (pss_cons (ps_if (pt_val (pe_callB L2.call_isi (by rfl) T.z_isinstance (by decide +kernel) (pa_cons (pv 0) (pa_cons (pe_bltn (v := .ty "dict") (by rfl) T.z_dict (by decide +kernel) rfl) pa_nil)))) (pss_one (ps_ret (pe_op op_add_str (pe_op op_add_str pe_str (pe_join pe_str (pe_lc (own := [("_law_word_here", 2)]) (by rfl) sc_g_text.nd (pi_list (pe_callB (call_sortedD rfl) (by rfl) T.z_sorted (by decide +kernel) (pa_cons (pv 0) pa_nil))) (blkOk_by (own := [("_law_word_here", 2)]) (N := ["_law_value_here", "_law_one", "_law_word_here"]) (sc := defScope s_g_text) (by decide +kernel)) (fun _ _ _ _ _ => (pg_name (i := 2) sc_g_text.nd rfl (by first | exact Or.inl rfl | exact Or.inr rfl))) (fun _ _ _ _ _ => pts_nil) (fun _ _ _ _ _ => (pe_op op_add_str (pe_op op_add_str (pv 2) pe_str) (C8.pe_c c__law_text hr (by omega) (by rfl) (pa_cons (pe_dget hu (pv 0) (pv 2) (fun _ _ => rfl)) pa_nil))))))) pe_str))) pss_nil)
      (pss_one (ps_ret (pe_callTy call_str_int (by rfl) T.z_str (by decide +kernel) (pa_cons (pv 0) pa_nil))))))), ?_⟩
  cases d with
  | int i =>
    cases wf with
    | int hi =>
      rw [rep_int] at hv
      subst hv
      refine ⟨_, rfl, _, _, _, _, _, rfl, .ty _, .base (.int _), kit_ty kitB_ii.2.1, _, rfl, ?_⟩
      refine ⟨_, rfl, _, _, _, _, _, rfl, .ty _, .base (.int _), kit_ty kitB_ii.2.2.1, _, rfl, ?_⟩
      refine ⟨_, rfl, _, _, _, _, _, rfl, .ty _, .base (.int _), kit_ty kitB_ii.2.2.2.1, _, rfl, ?_⟩
      exact ⟨_, rfl, i, rfl, log2_ok hi, by rw [showD_int] at k; exact k H (Fr.refl _ _)⟩
  | str x =>
    cases wf with
    | str hx =>
      rw [rep_str] at hv
      subst hv
      refine ⟨_, rfl, _, _, _, _, _, rfl, .ty _, .base (.str _), kit_ty kitB_s.2.1, _, rfl, ?_⟩
      exact ⟨_, rfl, _, _, rfl, rfl, sl_le (by rw [e7]; have := hx.2.1; omega), by rw [showD_str] at k; exact k H (Fr.refl _ _)⟩
  | tup l =>
    cases wf with
    | tup hw =>
      obtain ⟨a, xs, rfl, ha, hx⟩ := hv.t
      rw [partsD] at hp
      have hll := partsL_len l
      refine ⟨_, rfl, _, _, _, _, _, rfl, .ty _, .base (.tup ha), kit_ty kitB_t.2.1, _, rfl, ?_⟩
      refine ⟨_, rfl, _, _, _, _, _, rfl, .ty _, .base (.tup ha), kit_ty kitB_t.2.2.1, _, rfl, ?_⟩
      refine ⟨⟨_, rfl⟩, _, rfl, a, rfl, ⟨_, sqT_of ha⟩, fun C hC => ?_⟩
      refine lc_tup (K := K) (a := a) (xs := xs) (fun i H1 => Fr [] H H1 ∧ H1 C = some (.lst (((l.take i).map showD).map V.str))) ⟨Fr.new hC, upd_same⟩ (fun i H1 _ ⟨g1, _⟩ => sqT_of (g1.at ha)) (fun i x H1 hi ⟨g1, g2⟩ => ?_) (fun H1 ⟨g1, g2⟩ => ?_)
      · obtain ⟨d', hd, hr'⟩ := hx.at hi
        have hm : d' ∈ l := List.mem_of_getElem? hd
        refine ⟨rfl, _, rfl, x, d', rfl, hr'.mono g1.imm0, hw d' hm, by have := partsL_mem hm; omega, by omega, fun H2 f2 => ?_⟩
        refine ⟨_, f2.at g2, ?_, Fr.put_new (Fr.trans g1 f2) hC, ?_⟩
        · rw [List.length_map, List.length_map, List.length_take]
          exact sl_lt (by omega)
        · rw [upd_same, take_snoc hd, List.map_append, List.map_append]
          rfl
      · rw [hx.length, List.take_length] at g2
        have b1 : ((l.map showD).map (·.length)).sum ≤ 40 * partsL l := by
          rw [List.map_map, partsL_sum, ← sum_mul]
          exact sum_le fun d hd => by have := len_show (hw d hd); show (showD d).length ≤ _; omega
        have b2 := len_join "," (l.map showD)
        rw [List.length_map, e1, Nat.mul_one] at b2
        refine ⟨_, C, l.map showD, rfl, rfl, .inl (SqL.of g2), ?_, ?_⟩
        · rw [List.length_map, e1, Nat.mul_one]; omega
        · refine ⟨_, _, rfl, rfl, ?_, _, _, rfl, rfl, ?_, ?_⟩
          · rw [e2]; exact Nat.le_of_lt (sl_lt (by omega))
          · rw [len_app, e2, e3]; exact Nat.le_of_lt (sl_lt (by omega))
          · rw [showD_tup, showL_eq] at k
            exact k H1 g1
  | dct l =>
    cases wf with
    | dct hn hk hw =>
      obtain ⟨a, ks, rfl, ha, hx⟩ := rep_dct.mp hv
      rw [partsD] at hp
      have hll := partsK_len l
      refine ⟨_, rfl, _, _, _, _, _, rfl, .ty _, .base (.dK ha), kit_ty kitB_d.2.1, _, rfl, ?_⟩
      refine ⟨_, rfl, _, _, _, _, _, rfl, .ty _, .base (.dK ha), kit_ty kitB_d.2.2.1, _, rfl, ?_⟩
      refine ⟨_, rfl, _, _, _, _, _, rfl, .ty _, .base (.dK ha), kit_ty kitB_d.2.2.2, _, rfl, ?_⟩
      refine ⟨⟨_, rfl⟩, _, rfl, a, ks, l.map (·.1), rfl, .inl ha, repK_keys hx, by rw [List.length_map]; omega, fun ys q hys hsr hq => ?_⟩
      have eys : ys = sortS (l.map (·.1)) := sortS_unique hys hsr
      have f0 : Fr [] H (upd H q (.lst (ys.map V.str))) := Fr.new hq
      refine ⟨q, rfl, ⟨_, SqL.of upd_same⟩, fun C hC => ?_⟩
      have mem : ∀ {i : Nat} {y : Str}, ys[i]? = some y → ∃ d, getK l y = some d ∧ (y, d) ∈ l := fun {i y} hi => by
        have hm : y ∈ l.map (·.1) := hys.mem_iff.mp (List.mem_of_getElem? hi)
        obtain ⟨p, hp, e⟩ := List.mem_map.mp hm
        subst e
        exact ⟨p.2, getK_mem hn hp, hp⟩
      refine lc_list (K := K) (a := q) (xs := ys.map V.str) (fun i H1 => Fr [] (upd H q (.lst (ys.map V.str))) H1 ∧ H1 C = some (.lst (((ys.take i).map (pairT l)).map V.str))) ⟨Fr.new hC, upd_same⟩ (fun i H1 _ ⟨g1, _⟩ => SqL.of (g1.at upd_same)) (fun i x H1 hi ⟨g1, g2⟩ => ?_) (fun H1 ⟨g1, g2⟩ => ?_)
      · obtain ⟨y, rfl, hy⟩ := list_ext_str hi
        obtain ⟨d', hd, hm⟩ := mem hy
        obtain ⟨x', hx1, hx2⟩ := repK_get hx hd
        have hk8 : y.length ≤ 8 := (hk _ hm).2.1
        have hpd : partsD d' ≤ partsK l := partsK_mem hm
        have hsd := len_show (hw _ hm)
        have hsd : (showD d').length + 10 ≤ 40 * partsD d' := hsd
        have fH : Fr [] H H1 := Fr.trans f0 g1
        refine ⟨rfl, _, rfl, _, _, rfl, rfl, ?_, ?_⟩
        · rw [e6]; exact sl_le (by omega)
        refine ⟨_, rfl, _, rfl, a, x', rfl, by rw [← hx1]; exact DGet.k (k := Sum.inr y) (fH.at ha), x', d', rfl, hx2.mono fH.imm0, hw _ hm, by omega, by omega, fun H2 f2 => ?_⟩
        refine ⟨_, _, rfl, rfl, ?_, _, f2.at g2, ?_, Fr.put_new (Fr.trans g1 f2) hC, ?_⟩
        · exact Nat.le_of_lt (sl_lt (by rw [len_app, e6]; omega))
        · rw [List.length_map, List.length_map, List.length_take, hys.length_eq, List.length_map]
          exact sl_lt (by omega)
        · rw [upd_same, take_snoc hy, List.map_append, List.map_append]
          show _ = some (HO.lst (_ ++ [V.str (pairT l y)]))
          unfold pairT
          rw [hd]
      · rw [List.length_map, List.take_length] at g2
        have ep : ys.map (pairT l) = showPairs l := by rw [eys]; exact pairs_eq hn
        rw [ep] at g2
        have b1 := len_pairs hk fun p hp => len_show (hw p hp)
        have z : (showPairs l).length = l.length := by unfold showPairs; rw [List.length_map, sortK_length, showK_eq, List.length_map]
        have b2 := len_join "," (showPairs l)
        rw [z, e1, Nat.mul_one] at b2
        refine ⟨_, C, showPairs l, rfl, rfl, .inl (SqL.of g2), ?_, ?_⟩
        · rw [z, e1, Nat.mul_one]; omega
        · refine ⟨_, _, rfl, rfl, ?_, _, _, rfl, rfl, ?_, ?_⟩
          · rw [e4]; exact Nat.le_of_lt (sl_lt (by omega))
          · rw [len_app, e4, e5]; exact Nat.le_of_lt (sl_lt (by omega))
          · have e : showD (.dct l) = ("{" : Str) ++ Txt.join "," (showPairs l) ++ ("}" : Str) := showD_dct l
            rw [e] at k
            exact k H1 (Fr.trans f0 g1)
theorem ok_show_value (T : TX K mg) : ∀ n, C8.Cal P w K mg base n "show_value" (spShow n) []
  | 0 => cal_none (ps := ["value"]) T.f_show_value T.g_show_value (fun _ _ _ _ _ _ us hl => match us, hl with | [_], _ => rfl) spShow_no
  | n + 1 => ok_show_value_step T (ok_show_value T n)
theorem ok_text (T : TX K mg) : ∀ n, C8.Cal P w K mg base n "_law_text" (spShow n) []
  | 0 => cal_none (ps := ["_law_value_here"]) T.f_g_text T.g__law_text (fun _ _ _ _ _ _ us hl => match us, hl with | [_], _ => rfl) spShow_no
  | n + 1 => ok_text_step T (ok_text T n)
end
end FK
/-! FKS2 -/
set_option maxHeartbeats 400000
namespace FK
open PySem PySem.Spec PyProof.Rows L2
open TL (tl)
/-! ### a program's text, twice -/
def spAtomT : Sp := fun vs H Q _ => ∃ (v : V) (a : Atom), vs = [v] ∧ Rep H a.d v ∧ WfAtom a ∧ ∀ H', Fr [] H H' → Q (.str (atomT a)) H'
def spWords : Sp := fun vs H Q _ => ∃ (a b : Addr) (ws : List Str) (as : List Atom) (xs : List V), vs = [.ref a, .ref b] ∧ H a = some (.lst (ws.map V.str)) ∧ (H b = some (.tup xs) ∨ H b = some (.lst xs)) ∧ RepL H (as.map Atom.d) xs ∧ (∀ x ∈ as, WfAtom x) ∧ as.length ≤ 6 ∧ ws.length ≤ 8 ∧ (∀ x ∈ ws, x.length ≤ 8) ∧
  ∀ H', Fr [] H H' → Q (.str (rowT ws as)) H'
theorem no_S {x y : Str} {A B : Prop} (n : ¬ x = y) (h : B) : if decide (V.str x = V.str y) = true then A else B := by
  rw [decide_eq_false (fun z => n (V.str.inj z))]
  exact iteF h
theorem yes_S {x : Str} {A B : Prop} (h : A) : if decide (V.str x = V.str x) = true then A else B := by
  rw [decide_eq_true rfl]
  exact iteT h
section
variable {P : Program} {w : World} {K : PySem.W.Frag} {mg : Str → Option Value} {base : Heap}
theorem sc_show_atom : FnScope ["atom"] ["atom"] (defScope s_show_atom) := C8.fnScope_by (by decide +kernel)
theorem ok_show_atom (T : TX K mg) : C8.Cal P w K mg base 61 "show_atom" spAtomT [] := by
  have c_show_value : C8.Cal P w K mg base 60 "show_value" (spShow 60) [] := ok_show_value T 60
  refine cal_of T.f_show_atom T.g_show_atom sc_show_atom (fun _ _ _ _ _ _ us hl => match us, hl with | [_], _ => rfl) (fun vs H Q E h => ?_) (fun cdv A outer s H vs Q E hr h => ?_)
  · obtain ⟨v, d, rfl, _⟩ := h
    rfl
  obtain ⟨v, d, rfl, hv, wf, k⟩ := h
  refine ⟨_, (pss_cons (ps_if (pt_cmpR op_eq (pe_ix (r := rIxT K) ix_tup (pv 0) pe_int (fun _ _ => rfl)) pe_str (nomark _)) (pss_one (ps_ret (C8.pe_c c_show_value hr (by omega) (by rfl) (pa_cons (pe_ix (r := rIxT K) ix_tup (pv 0) pe_int (fun _ _ => rfl)) pa_nil)))) pss_nil)
      (pss_one (ps_ret (pe_ix (r := rIxT K) ix_tup (pv 0) pe_int (fun _ _ => rfl))))), ?_⟩
  cases d with
  | is d =>
    obtain ⟨a, xs, rfl, ha, hx⟩ := hv.t
    obtain ⟨x, y, rfl, hx, hy⟩ := hx.c2
    rw [rep_str] at hx
    subst hx
    refine ⟨_, rfl, a, _, 0, _, rfl, rfl, sqT_of ha, rfl, rfl, _, rfl, yes_S ?_⟩
    exact ⟨_, rfl, a, _, 1, _, rfl, rfl, sqT_of ha, rfl, y, d, rfl, hy, wf.1, wf.2, by omega, k⟩
  | of n =>
    obtain ⟨a, xs, rfl, ha, hx⟩ := hv.t
    obtain ⟨x, y, rfl, hx, hy⟩ := hx.c2
    rw [rep_str] at hx hy
    subst hx hy
    refine ⟨_, rfl, a, _, 0, _, rfl, rfl, sqT_of ha, rfl, rfl, _, rfl, no_S (by decide +kernel) ?_⟩
    exact ⟨_, rfl, a, _, 1, _, rfl, rfl, sqT_of ha, rfl, k H (Fr.refl _ _)⟩
theorem sc_g_atom_text : FnScope ["_law_atom_here"] ["_law_atom_here"] (defScope s_g_atom_text) := C8.fnScope_by (by decide +kernel)
theorem ok_atom_text (T : TX K mg) : C8.Cal P w K mg base 61 "_law_atom_text" spAtomT [] := by
  have c__law_text : C8.Cal P w K mg base 60 "_law_text" (spShow 60) [] := ok_text T 60
  refine cal_of T.f_g_atom_text T.g__law_atom_text sc_g_atom_text (fun _ _ _ _ _ _ us hl => match us, hl with | [_], _ => rfl) (fun vs H Q E h => ?_) (fun cdv A outer s H vs Q E hr h => ?_)
  · obtain ⟨v, d, rfl, _⟩ := h
    rfl
  obtain ⟨v, d, rfl, hv, wf, k⟩ := h
  refine ⟨_, (pss_cons (ps_if (pt_cmpR op_eq (pe_ix (r := rIxT K) ix_tup (pv 0) pe_int (fun _ _ => rfl)) pe_str (nomark _)) (pss_one (ps_ret (pe_ix (r := rIxT K) ix_tup (pv 0) pe_int (fun _ _ => rfl)))) pss_nil)
      (pss_one (ps_ret (C8.pe_c c__law_text hr (by omega) (by rfl) (pa_cons (pe_ix (r := rIxT K) ix_tup (pv 0) pe_int (fun _ _ => rfl)) pa_nil))))), ?_⟩
  cases d with
  | of n =>
    obtain ⟨a, xs, rfl, ha, hx⟩ := hv.t
    obtain ⟨x, y, rfl, hx, hy⟩ := hx.c2
    rw [rep_str] at hx hy
    subst hx hy
    refine ⟨_, rfl, a, _, 0, _, rfl, rfl, sqT_of ha, rfl, rfl, _, rfl, yes_S ?_⟩
    exact ⟨_, rfl, a, _, 1, _, rfl, rfl, sqT_of ha, rfl, k H (Fr.refl _ _)⟩
  | is d =>
    obtain ⟨a, xs, rfl, ha, hx⟩ := hv.t
    obtain ⟨x, y, rfl, hx, hy⟩ := hx.c2
    rw [rep_str] at hx
    subst hx
    refine ⟨_, rfl, a, _, 0, _, rfl, rfl, sqT_of ha, rfl, rfl, _, rfl, no_S (by decide +kernel) ?_⟩
    exact ⟨_, rfl, a, _, 1, _, rfl, rfl, sqT_of ha, rfl, y, d, rfl, hy, wf.1, wf.2, by omega, k⟩
theorem sc_show_words : FnScope ["words", "atoms", "atom"] ["words", "atoms"] (defScope s_show_words) := C8.fnScope_by (by decide +kernel)
theorem ok_show_words (T : TX K mg) : C8.Cal P w K mg base 62 "show_words" spWords [] := by
  have c_show_atom : C8.Cal P w K mg base 61 "show_atom" spAtomT [] := ok_show_atom T
  refine cal_of T.f_show_words T.g_show_words sc_show_words (fun _ _ _ _ _ _ us hl => match us, hl with | [_, _], _ => rfl) (fun vs H Q E h => ?_) (fun cdv A outer s H vs Q E hr h => ?_)
  · obtain ⟨a, b, ws, as, xs, rfl, _⟩ := h
    rfl
  obtain ⟨a, b, ws, as, xs, rfl, ha, hb, hx, hw, h6, h8, hl8, k⟩ := h
  have xl : xs.length = as.length := by rw [hx.length, List.length_map]
  have fin : ∀ (l C : Addr) (H0 H1 : Hp), Fr [] H H0 → Fr [] H0 H1 → H0 l = some (.lst (ws.map V.str)) → H1 C = some (.lst (((as.take xs.length).map atomT).map V.str)) → ∃ (l' b' : Addr) (xs' zs : List V), V.ref l = .ref l' ∧ V.ref C = .ref b' ∧ H1 l' = some (.lst xs') ∧ H1 b' = some (.lst zs) ∧ xs'.length + zs.length ≤ sizeLine ∧
      ∀ p, H1 p = none → ∃ (a' : Str) (p' : Addr) (ys : List Str), V.str " " = .str a' ∧ [V.ref p] = [.ref p'] ∧ (SqL K (upd H1 p (.lst (xs' ++ zs))) p' (ys.map V.str) ∨ SqT K (upd H1 p (.lst (xs' ++ zs))) p' (ys.map V.str)) ∧ (ys.map (·.length)).sum + ys.length * a'.length ≤ 16777216 ∧ Q (.str (Txt.join a' ys)) (upd H1 p (.lst (xs' ++ zs))) := fun l C H0 H1 f0 g1 h0 g2 => by
    rw [xl, List.take_length] at g2
    refine ⟨l, C, _, _, rfl, rfl, g1.at h0, g2, ?_, fun p hp => ⟨_, p, ws ++ as.map atomT, rfl, rfl, .inl (SqL.of (by rw [upd_same, List.map_append])), ?_, k _ (Fr.trans f0 (Fr.trans g1 (Fr.new hp)))⟩⟩
    · rw [List.length_map, List.length_map, List.length_map]
      exact sl_le (by omega)
    · exact Nat.le_trans (row_sum h8 hl8 h6 hw) (by decide)
  rcases hb with hb | hb
  · refine ⟨_, (pss_one (ps_ret (pe_join pe_str (pe_op op_cat (pe_callTy call_list_of (by rfl) T.z_list (by decide +kernel) (pa_cons (pv 0) pa_nil)) (pe_lc (own := [("atom", 2)]) (by rfl) sc_show_words.nd (pi_tup (pv 1)) (blkOk_by (own := [("atom", 2)]) (N := ["words", "atoms", "atom"]) (sc := defScope s_show_words) (by decide +kernel)) (fun _ _ _ _ _ => (pg_name (i := 2) sc_show_words.nd rfl (by first | exact Or.inl rfl | exact Or.inr rfl))) (fun _ _ _ _ _ => pts_nil) (fun _ _ _ _ _ => (C8.pe_c c_show_atom hr (by omega) (by rfl) (pa_cons (pv 2) pa_nil)))))))), ?_⟩
    refine ⟨⟨_, rfl⟩, _, rfl, a, _, rfl, .inl (SqL.of ha), fun l hl => ?_⟩
    have f0 : Fr [] H (upd H l (.lst (ws.map V.str))) := Fr.new hl
    refine ⟨_, rfl, b, rfl, ⟨_, sqT_of (f0.at hb)⟩, fun C hC => ?_⟩
    refine lc_tup (K := K) (a := b) (xs := xs) (fun i H1 => Fr [] (upd H l (.lst (ws.map V.str))) H1 ∧ H1 C = some (.lst (((as.take i).map atomT).map V.str))) ⟨Fr.new hC, upd_same⟩ (fun i H1 _ ⟨g1, _⟩ => sqT_of (g1.at (f0.at hb))) (fun i x H1 hi ⟨g1, g2⟩ => ?_) (fun H1 ⟨g1, g2⟩ => ?_)
    · obtain ⟨d', hd, hr'⟩ := hx.at hi
      rw [List.getElem?_map] at hd
      obtain ⟨y, hy, rfl⟩ := Option.map_eq_some_iff.mp hd
      refine ⟨rfl, _, rfl, x, y, rfl, hr'.mono (Fr.imm0 (Fr.trans f0 g1)), hw y (List.mem_of_getElem? hy), fun H2 f2 => ?_⟩
      refine ⟨_, f2.at g2, ?_, Fr.put_new (Fr.trans g1 f2) hC, ?_⟩
      · rw [List.length_map, List.length_map, List.length_take]
        exact sl_lt (by omega)
      · rw [upd_same, take_snoc hy, List.map_append, List.map_append]
        rfl
    · exact fin l C _ H1 f0 g1 upd_same g2
  · refine ⟨_, (pss_one (ps_ret (pe_join pe_str (pe_op op_cat (pe_callTy call_list_of (by rfl) T.z_list (by decide +kernel) (pa_cons (pv 0) pa_nil)) (pe_lc (own := [("atom", 2)]) (by rfl) sc_show_words.nd (pi_list (pv 1)) (blkOk_by (own := [("atom", 2)]) (N := ["words", "atoms", "atom"]) (sc := defScope s_show_words) (by decide +kernel)) (fun _ _ _ _ _ => (pg_name (i := 2) sc_show_words.nd rfl (by first | exact Or.inl rfl | exact Or.inr rfl))) (fun _ _ _ _ _ => pts_nil) (fun _ _ _ _ _ => (C8.pe_c c_show_atom hr (by omega) (by rfl) (pa_cons (pv 2) pa_nil)))))))), ?_⟩
    refine ⟨⟨_, rfl⟩, _, rfl, a, _, rfl, .inl (SqL.of ha), fun l hl => ?_⟩
    have f0 : Fr [] H (upd H l (.lst (ws.map V.str))) := Fr.new hl
    refine ⟨_, rfl, b, rfl, ⟨_, SqL.of (f0.at hb)⟩, fun C hC => ?_⟩
    refine lc_list (K := K) (a := b) (xs := xs) (fun i H1 => Fr [] (upd H l (.lst (ws.map V.str))) H1 ∧ H1 C = some (.lst (((as.take i).map atomT).map V.str))) ⟨Fr.new hC, upd_same⟩ (fun i H1 _ ⟨g1, _⟩ => SqL.of (g1.at (f0.at hb))) (fun i x H1 hi ⟨g1, g2⟩ => ?_) (fun H1 ⟨g1, g2⟩ => ?_)
    · obtain ⟨d', hd, hr'⟩ := hx.at hi
      rw [List.getElem?_map] at hd
      obtain ⟨y, hy, rfl⟩ := Option.map_eq_some_iff.mp hd
      refine ⟨rfl, _, rfl, x, y, rfl, hr'.mono (Fr.imm0 (Fr.trans f0 g1)), hw y (List.mem_of_getElem? hy), fun H2 f2 => ?_⟩
      refine ⟨_, f2.at g2, ?_, Fr.put_new (Fr.trans g1 f2) hC, ?_⟩
      · rw [List.length_map, List.length_map, List.length_take]
        exact sl_lt (by omega)
      · rw [upd_same, take_snoc hy, List.map_append, List.map_append]
        rfl
    · exact fin l C _ H1 f0 g1 upd_same g2
theorem sc_g_row_text : FnScope ["_law_words", "_law_atoms_here", "_law_atom_here"] ["_law_words", "_law_atoms_here"] (defScope s_g_row_text) := C8.fnScope_by (by decide +kernel)
theorem ok_row_text (T : TX K mg) : C8.Cal P w K mg base 62 "_law_row_text" spWords [] := by
  have c__law_atom_text : C8.Cal P w K mg base 61 "_law_atom_text" spAtomT [] := ok_atom_text T
  refine cal_of T.f_g_row_text T.g__law_row_text sc_g_row_text (fun _ _ _ _ _ _ us hl => match us, hl with | [_, _], _ => rfl) (fun vs H Q E h => ?_) (fun cdv A outer s H vs Q E hr h => ?_)
  · obtain ⟨a, b, ws, as, xs, rfl, _⟩ := h
    rfl
  obtain ⟨a, b, ws, as, xs, rfl, ha, hb, hx, hw, h6, h8, hl8, k⟩ := h
  have xl : xs.length = as.length := by rw [hx.length, List.length_map]
  have fin : ∀ (l C : Addr) (H0 H1 : Hp), Fr [] H H0 → Fr [] H0 H1 → H0 l = some (.lst (ws.map V.str)) → H1 C = some (.lst (((as.take xs.length).map atomT).map V.str)) → ∃ (l' b' : Addr) (xs' zs : List V), V.ref l = .ref l' ∧ V.ref C = .ref b' ∧ H1 l' = some (.lst xs') ∧ H1 b' = some (.lst zs) ∧ xs'.length + zs.length ≤ sizeLine ∧
      ∀ p, H1 p = none → ∃ (a' : Str) (p' : Addr) (ys : List Str), V.str " " = .str a' ∧ [V.ref p] = [.ref p'] ∧ (SqL K (upd H1 p (.lst (xs' ++ zs))) p' (ys.map V.str) ∨ SqT K (upd H1 p (.lst (xs' ++ zs))) p' (ys.map V.str)) ∧ (ys.map (·.length)).sum + ys.length * a'.length ≤ 16777216 ∧ Q (.str (Txt.join a' ys)) (upd H1 p (.lst (xs' ++ zs))) := fun l C H0 H1 f0 g1 h0 g2 => by
    rw [xl, List.take_length] at g2
    refine ⟨l, C, _, _, rfl, rfl, g1.at h0, g2, ?_, fun p hp => ⟨_, p, ws ++ as.map atomT, rfl, rfl, .inl (SqL.of (by rw [upd_same, List.map_append])), ?_, k _ (Fr.trans f0 (Fr.trans g1 (Fr.new hp)))⟩⟩
    · rw [List.length_map, List.length_map, List.length_map]
      exact sl_le (by omega)
    · exact Nat.le_trans (row_sum h8 hl8 h6 hw) (by decide)
  rcases hb with hb | hb
  · refine ⟨_, (pss_one (ps_ret (pe_join pe_str (pe_op op_cat (pv 0) (pe_lc (own := [("_law_atom_here", 2)]) (by rfl) sc_g_row_text.nd (pi_tup (pv 1)) (blkOk_by (own := [("_law_atom_here", 2)]) (N := ["_law_words", "_law_atoms_here", "_law_atom_here"]) (sc := defScope s_g_row_text) (by decide +kernel)) (fun _ _ _ _ _ => (pg_name (i := 2) sc_g_row_text.nd rfl (by first | exact Or.inl rfl | exact Or.inr rfl))) (fun _ _ _ _ _ => pts_nil) (fun _ _ _ _ _ => (C8.pe_c c__law_atom_text hr (by omega) (by rfl) (pa_cons (pv 2) pa_nil)))))))), ?_⟩
    refine ⟨⟨_, rfl⟩, _, rfl, _, rfl, b, rfl, ⟨_, sqT_of hb⟩, fun C hC => ?_⟩
    refine lc_tup (K := K) (a := b) (xs := xs) (fun i H1 => Fr [] H H1 ∧ H1 C = some (.lst (((as.take i).map atomT).map V.str))) ⟨Fr.new hC, upd_same⟩ (fun i H1 _ ⟨g1, _⟩ => sqT_of (g1.at hb)) (fun i x H1 hi ⟨g1, g2⟩ => ?_) (fun H1 ⟨g1, g2⟩ => ?_)
    · obtain ⟨d', hd, hr'⟩ := hx.at hi
      rw [List.getElem?_map] at hd
      obtain ⟨y, hy, rfl⟩ := Option.map_eq_some_iff.mp hd
      refine ⟨rfl, _, rfl, x, y, rfl, hr'.mono (Fr.imm0 g1), hw y (List.mem_of_getElem? hy), fun H2 f2 => ?_⟩
      refine ⟨_, f2.at g2, ?_, Fr.put_new (Fr.trans g1 f2) hC, ?_⟩
      · rw [List.length_map, List.length_map, List.length_take]
        exact sl_lt (by omega)
      · rw [upd_same, take_snoc hy, List.map_append, List.map_append]
        rfl
    · exact fin a C H H1 (Fr.refl _ _) g1 ha g2
  · refine ⟨_, (pss_one (ps_ret (pe_join pe_str (pe_op op_cat (pv 0) (pe_lc (own := [("_law_atom_here", 2)]) (by rfl) sc_g_row_text.nd (pi_list (pv 1)) (blkOk_by (own := [("_law_atom_here", 2)]) (N := ["_law_words", "_law_atoms_here", "_law_atom_here"]) (sc := defScope s_g_row_text) (by decide +kernel)) (fun _ _ _ _ _ => (pg_name (i := 2) sc_g_row_text.nd rfl (by first | exact Or.inl rfl | exact Or.inr rfl))) (fun _ _ _ _ _ => pts_nil) (fun _ _ _ _ _ => (C8.pe_c c__law_atom_text hr (by omega) (by rfl) (pa_cons (pv 2) pa_nil)))))))), ?_⟩
    refine ⟨⟨_, rfl⟩, _, rfl, _, rfl, b, rfl, ⟨_, SqL.of hb⟩, fun C hC => ?_⟩
    refine lc_list (K := K) (a := b) (xs := xs) (fun i H1 => Fr [] H H1 ∧ H1 C = some (.lst (((as.take i).map atomT).map V.str))) ⟨Fr.new hC, upd_same⟩ (fun i H1 _ ⟨g1, _⟩ => SqL.of (g1.at hb)) (fun i x H1 hi ⟨g1, g2⟩ => ?_) (fun H1 ⟨g1, g2⟩ => ?_)
    · obtain ⟨d', hd, hr'⟩ := hx.at hi
      rw [List.getElem?_map] at hd
      obtain ⟨y, hy, rfl⟩ := Option.map_eq_some_iff.mp hd
      refine ⟨rfl, _, rfl, x, y, rfl, hr'.mono (Fr.imm0 g1), hw y (List.mem_of_getElem? hy), fun H2 f2 => ?_⟩
      refine ⟨_, f2.at g2, ?_, Fr.put_new (Fr.trans g1 f2) hC, ?_⟩
      · rw [List.length_map, List.length_map, List.length_take]
        exact sl_lt (by omega)
      · rw [upd_same, take_snoc hy, List.map_append, List.map_append]
        rfl
    · exact fin a C H H1 (Fr.refl _ _) g1 ha g2
end
end FK
/-! FKS3 -/
set_option maxHeartbeats 400000
namespace FK
open PySem PySem.Spec PyProof.Rows L2
open TL (tl)
/-! ### a block's rows -/
def spRows (n : Nat) : Sp := fun vs H Q _ => ∃ (v : V) (b : Block), vs = [v] ∧ Rep H b.d v ∧ WfB b ∧ ifsB b < n ∧ (rowsB b).length ≤ 1000 ∧ ∀ H' r, Fr [] H H' → H' r = some (.lst ((rowsB b).map V.str)) → Q (.ref r) H'
theorem spRows_no : ∀ vs H Q E, ¬ spRows 0 vs H Q E := fun vs H Q E ⟨v, b, _, _, _, h, _⟩ => by omega
theorem step_words {n op : Str} {as : List Atom} (h : WfStep (.let_ n op as)) : (∀ x ∈ [n, ("=" : Str), op], x.length ≤ 8) ∧ as.length ≤ 6 ∧ ∀ x ∈ as, WfAtom x := by
  obtain ⟨a1, a2, a3⟩ := h
  have o := op_len _ a2
  refine ⟨fun w hw => ?_, by have := o.2; simp at this; omega, a3⟩
  simp only [List.mem_cons, List.not_mem_nil, or_false] at hw
  rcases hw with rfl | rfl | rfl
  · exact a1.2.1
  · rw [words_len.1]; omega
  · exact o.1
theorem call_words {n f : Str} {as : List Atom} (h : WfStep (.call n f as)) : (∀ x ∈ [n, ("=" : Str), ("call" : Str), f], x.length ≤ 8) ∧ as.length ≤ 6 ∧ ∀ x ∈ as, WfAtom x := by
  obtain ⟨a1, a2, a3, a4⟩ := h
  refine ⟨fun w hw => ?_, a3, a4⟩
  simp only [List.mem_cons, List.not_mem_nil, or_false] at hw
  rcases hw with rfl | rfl | rfl | rfl
  · exact a1.2.1
  · rw [words_len.1]; omega
  · rw [words_len.2.1]; omega
  · exact a2.2.1
theorem one_word {x : Str} (h : x.length ≤ 8) : ∀ y ∈ [x], y.length ≤ 8 := fun y hy => by rw [List.mem_singleton.mp hy]; exact h
theorem two_words {x z : Str} (h : x.length ≤ 8) (g : z.length ≤ 8) : ∀ y ∈ [x, z], y.length ≤ 8 := fun y hy => by
  simp only [List.mem_cons, List.not_mem_nil, or_false] at hy
  rcases hy with rfl | rfl
  · exact h
  · exact g
theorem one_atom {a : Atom} (h : WfAtom a) : ∀ x ∈ [a], WfAtom x := fun x hx => by rw [List.mem_singleton.mp hx]; exact h
theorem steps_len : ∀ b : Block, b.ss.length ≤ (rowsB b).length
  | .leaf ss e => by simp only [Block.ss, rowsB, List.length_append, List.length_map]; omega
  | .iff ss a b c => by simp only [Block.ss, rowsB, List.length_append, List.length_map]; omega
theorem ne_let : ¬ (("call" : Str) = "let") := by decide +kernel
theorem ne_ends : ¬ (("give" : Str) = "if") ∧ ¬ (("go" : Str) = "if") ∧ ¬ (("fail" : Str) = "if") ∧ ¬ (("give" : Str) = "go") ∧ ¬ (("fail" : Str) = "go") ∧ ¬ (("fail" : Str) = "give") ∧ ¬ (("if" : Str) = "give") ∧ ¬ (("if" : Str) = "go") ∧ ¬ (("if" : Str) = "fail") ∧ ¬ (("go" : Str) = "give") ∧ ¬ (("give" : Str) = "fail") ∧ ¬ (("go" : Str) = "fail") := by decide +kernel
section
variable {P : Program} {w : World} {K : PySem.W.Frag} {mg : Str → Option Value} {base : Heap}
theorem sc_rows_of : FnScope ["block", "steps", "end", "rows", "step"] ["block"] (defScope s_rows_of) := C8.fnScope_by (by decide +kernel)
theorem ok_rows_of_step (T : TX K mg) {n k : Nat} (hk : 62 ≤ k) (c_rows_of : C8.Cal P w K mg base k "rows_of" (spRows n) []) : C8.Cal P w K mg base (k + 1) "rows_of" (spRows (n + 1)) [] := by
  have c_show_words : C8.Cal P w K mg base 62 "show_words" spWords [] := ok_show_words T
  refine cal_of T.f_rows_of T.g_rows_of sc_rows_of (fun _ _ _ _ _ _ us hl => match us, hl with | [_], _ => rfl) (fun vs H Q E h => ?_) (fun cdv A outer s H vs Q E hr h => ?_)
  · obtain ⟨v, b, rfl, _⟩ := h
    rfl
  obtain ⟨v, b, rfl, hv, wf, hi, h1000, k⟩ := h
  refine ⟨_, (pss_cons (ps_asg (pv 0) (pg_tup rfl (pgs_cons (pg_name (i := 1) sc_rows_of.nd rfl (by first | exact Or.inl rfl | exact Or.inr rfl)) (pgs_cons (pg_name (i := 2) sc_rows_of.nd rfl (by first | exact Or.inl rfl | exact Or.inr rfl)) pgs_nil))))
      (pss_cons (ps_set (i := 3) sc_rows_of.nd rfl (by first | exact Or.inl rfl | exact Or.inr rfl) (pe_lst pa_nil))
      (pss_cons (ps_for PassesOwn.never rfl (pi_tup (pv 1)) (pg_name (i := 4) sc_rows_of.nd rfl (by first | exact Or.inl rfl | exact Or.inr rfl))
        (pss_one (ps_if (pt_cmpR op_eq (pe_ix (r := rIxT K) ix_tup (pv 4) pe_int (fun _ _ => rfl)) pe_str (nomark _)) (pss_one (ps_expr (pe_bm PySem.F.plainAttrs_list PySem.F.slot_list_append PySem.F.type_list_append mt_append (pv 3) (pa_cons (C8.pe_c c_show_words hr (by omega) (by rfl) (pa_cons (pe_lst (pa_cons (pe_ix (r := rIxT K) ix_tup (pv 4) pe_int (fun _ _ => rfl)) (pa_cons pe_str (pa_cons (pe_ix (r := rIxT K) ix_tup (pv 4) pe_int (fun _ _ => rfl)) pa_nil)))) (pa_cons (pe_ix (r := rIxT K) ix_tup (pv 4) pe_int (fun _ _ => rfl)) pa_nil))) pa_nil)))) (pss_one (ps_expr (pe_bm PySem.F.plainAttrs_list PySem.F.slot_list_append PySem.F.type_list_append mt_append (pv 3) (pa_cons (C8.pe_c c_show_words hr (by omega) (by rfl) (pa_cons (pe_lst (pa_cons (pe_ix (r := rIxT K) ix_tup (pv 4) pe_int (fun _ _ => rfl)) (pa_cons pe_str (pa_cons pe_str (pa_cons (pe_ix (r := rIxT K) ix_tup (pv 4) pe_int (fun _ _ => rfl)) pa_nil))))) (pa_cons (pe_ix (r := rIxT K) ix_tup (pv 4) pe_int (fun _ _ => rfl)) pa_nil))) pa_nil)))))))
      (pss_cons (ps_if (pt_cmpR op_eq (pe_ix (r := rIxT K) ix_tup (pv 2) pe_int (fun _ _ => rfl)) pe_str (nomark _)) (pss_cons (ps_expr (pe_bm PySem.F.plainAttrs_list PySem.F.slot_list_append PySem.F.type_list_append mt_append (pv 3) (pa_cons (C8.pe_c c_show_words hr (by omega) (by rfl) (pa_cons (pe_lst (pa_cons pe_str pa_nil)) (pa_cons (pe_lst (pa_cons (pe_ix (r := rIxT K) ix_tup (pv 2) pe_int (fun _ _ => rfl)) pa_nil)) pa_nil))) pa_nil)))
      (pss_one (ps_ret (pe_op op_cat (pe_op op_cat (pe_op op_cat (pe_op op_cat (pv 3) (C8.pe_c c_rows_of hr (by omega) (by rfl) (pa_cons (pe_ix (r := rIxT K) ix_tup (pv 2) pe_int (fun _ _ => rfl)) pa_nil))) (pe_lst (pa_cons pe_str pa_nil))) (C8.pe_c c_rows_of hr (by omega) (by rfl) (pa_cons (pe_ix (r := rIxT K) ix_tup (pv 2) pe_int (fun _ _ => rfl)) pa_nil))) (pe_lst (pa_cons pe_str pa_nil)))))) pss_nil)
      (pss_cons (ps_if (pt_cmpR op_eq (pe_ix (r := rIxT K) ix_tup (pv 2) pe_int (fun _ _ => rfl)) pe_str (nomark _)) (pss_one (ps_expr (pe_bm PySem.F.plainAttrs_list PySem.F.slot_list_append PySem.F.type_list_append mt_append (pv 3) (pa_cons (C8.pe_c c_show_words hr (by omega) (by rfl) (pa_cons (pe_lst (pa_cons pe_str (pa_cons (pe_ix (r := rIxT K) ix_tup (pv 2) pe_int (fun _ _ => rfl)) pa_nil))) (pa_cons (pe_ix (r := rIxT K) ix_tup (pv 2) pe_int (fun _ _ => rfl)) pa_nil))) pa_nil)))) (pss_one (ps_if (pt_cmpR op_eq (pe_ix (r := rIxT K) ix_tup (pv 2) pe_int (fun _ _ => rfl)) pe_str (nomark _)) (pss_one (ps_expr (pe_bm PySem.F.plainAttrs_list PySem.F.slot_list_append PySem.F.type_list_append mt_append (pv 3) (pa_cons (C8.pe_c c_show_words hr (by omega) (by rfl) (pa_cons (pe_lst (pa_cons pe_str pa_nil)) (pa_cons (pe_lst (pa_cons (pe_ix (r := rIxT K) ix_tup (pv 2) pe_int (fun _ _ => rfl)) pa_nil)) pa_nil))) pa_nil)))) (pss_one (ps_expr (pe_bm PySem.F.plainAttrs_list PySem.F.slot_list_append PySem.F.type_list_append mt_append (pv 3) (pa_cons (pe_op op_add_str pe_str (pe_ix (r := rIxT K) ix_tup (pv 2) pe_int (fun _ _ => rfl))) pa_nil)))))))
      (pss_one (ps_ret (pv 3)))))))), ?_⟩
  have hss : ∀ s ∈ b.ss, WfStep s := by
    cases b with
    | leaf ss e => exact wf.1
    | iff ss a b c => exact wf.1
  have hlen : b.ss.length ≤ 1000 := Nat.le_trans (steps_len b) h1000
  rw [b.d_eq] at hv
  obtain ⟨a0, xs0, rfl, ha0, hx0⟩ := hv.t
  obtain ⟨vss, ve, rfl, hvs, hve⟩ := hx0.c2
  obtain ⟨a1, xs1, rfl, ha1, hx1⟩ := hvs.t
  refine ⟨_, rfl, a0, _, rfl, sqT_of ha0, rfl, _, _, rfl, _, _, rfl, rfl, sl0, fun r hr0 => ?_⟩
  refine ⟨_, rfl, a1, rfl, ⟨_, sqT_of ((Fr.new (S := []) hr0).at ha1)⟩, ?_⟩
  refine for_tup (K := K) (a := a1) (xs := xs1) (fun i σ H1 => ∃ vk, σ = [some (V.ref a0), some (V.ref a1), some ve, some (V.ref r), vk] ∧ Fr [] H H1 ∧ H1 r = some (.lst (((b.ss.take i).map stepT).map V.str))) ⟨none, rfl, Fr.new hr0, upd_same⟩ (fun i σ H1 _ ⟨vk, _, f1, _⟩ => sqT_of (f1.at ha1)) ?_ ?_
  · rintro i x σ H1 hxi ⟨vk, rfl, f1, g1⟩
    obtain ⟨d', hd, hrx⟩ := hx1.at hxi
    rw [List.getElem?_map] at hd
    obtain ⟨s', hs', rfl⟩ := Option.map_eq_some_iff.mp hd
    have ws := hss s' (List.mem_of_getElem? hs')
    have hrx1 := hrx.mono (Fr.imm0 f1)
    have lenr : (((b.ss.take i).map stepT).map V.str).length < sizeLine := by
      rw [List.length_map, List.length_map, List.length_take]
      exact sl_lt (by omega)
    cases s' with
    | let_ nm op as =>
      obtain ⟨w1, w2, w3⟩ := step_words ws
      obtain ⟨t, ys, rfl, ht, hy⟩ := hrx1.t
      obtain ⟨y0, y1, y2, y3, rfl, r0, r1, r2, r3⟩ := hy.c4
      rw [rep_str] at r0 r1 r2
      subst r0 r1 r2
      refine ⟨_, rfl, t, _, 0, _, rfl, rfl, sqT_of ht, rfl, rfl, _, rfl, yes_S ?_⟩
      obtain ⟨ta, zs, rfl, hta, hzs⟩ := r3.t
      refine ⟨_, rfl, .inl ⟨rfl, _, SqL.of g1⟩, _, rfl, t, _, 1, _, rfl, rfl, sqT_of ht, rfl, _, rfl, t, _, 2, _, rfl, rfl, sqT_of ht, rfl, sl3, fun q hq => ?_⟩
      have fq : Fr [] H1 (upd H1 q (.lst [V.str nm, V.str "=", V.str op])) := Fr.new hq
      refine ⟨_, rfl, t, _, 3, _, rfl, rfl, sqT_of (fq.at ht), rfl, q, ta, [nm, "=", op], as, zs, rfl, upd_same, .inl (fq.at hta), hzs.mono fq.imm0, w3, w2, (by show 3 ≤ 8; decide), w1, fun H2 f2 => ?_⟩
      refine ⟨r, _, _, rfl, rfl, f2.at (fq.at g1), lenr, _, rfl, Fr.put_new (Fr.trans f1 (Fr.trans fq f2)) hr0, ?_⟩
      rw [upd_same, take_snoc hs', List.map_append, List.map_append]
      rfl
    | call nm f as =>
      obtain ⟨w1, w2, w3⟩ := call_words ws
      obtain ⟨t, ys, rfl, ht, hy⟩ := hrx1.t
      obtain ⟨y0, y1, y2, y3, rfl, r0, r1, r2, r3⟩ := hy.c4
      rw [rep_str] at r0 r1 r2
      subst r0 r1 r2
      refine ⟨_, rfl, t, _, 0, _, rfl, rfl, sqT_of ht, rfl, rfl, _, rfl, no_S ne_let ?_⟩
      obtain ⟨ta, zs, rfl, hta, hzs⟩ := r3.t
      refine ⟨_, rfl, .inl ⟨rfl, _, SqL.of g1⟩, _, rfl, t, _, 1, _, rfl, rfl, sqT_of ht, rfl, _, rfl, t, _, 2, _, rfl, rfl, sqT_of ht, rfl, sl4, fun q hq => ?_⟩
      have fq : Fr [] H1 (upd H1 q (.lst [V.str nm, V.str "=", V.str "call", V.str f])) := Fr.new hq
      refine ⟨_, rfl, t, _, 3, _, rfl, rfl, sqT_of (fq.at ht), rfl, q, ta, [nm, "=", "call", f], as, zs, rfl, upd_same, .inl (fq.at hta), hzs.mono fq.imm0, w3, w2, (by show 4 ≤ 8; decide), w1, fun H2 f2 => ?_⟩
      refine ⟨r, _, _, rfl, rfl, f2.at (fq.at g1), lenr, _, rfl, Fr.put_new (Fr.trans f1 (Fr.trans fq f2)) hr0, ?_⟩
      rw [upd_same, take_snoc hs', List.map_append, List.map_append]
      rfl
  rintro σ H1 ⟨vk, rfl, f1, g1⟩
  have xl : xs1.length = b.ss.length := by rw [hx1.length, List.length_map]
  rw [xl, List.take_length] at g1
  have lss : ((b.ss.map stepT).map V.str).length < sizeLine := by
    rw [List.length_map, List.length_map]
    exact sl_lt (by omega)
  have hve1 := hve.mono (Fr.imm0 f1)
  cases b with
  | iff ss a b c =>
    obtain ⟨w1, w2, w3, w4⟩ := wf
    obtain ⟨t, ys, rfl, ht, hy⟩ := hve1.t
    obtain ⟨y0, y1, y2, y3, rfl, r0, r1, r2, r3⟩ := hy.c4
    rw [rep_str] at r0
    subst r0
    have hb : (rowsB b).length ≤ 1000 := by simp only [rowsB, List.length_append] at h1000; omega
    have hc : (rowsB c).length ≤ 1000 := by simp only [rowsB, List.length_append] at h1000; omega
    have ib : ifsB b < n := by simp only [ifsB] at hi; omega
    have ic : ifsB c < n := by simp only [ifsB] at hi; omega
    refine ⟨_, rfl, t, _, 0, _, rfl, rfl, sqT_of ht, rfl, rfl, _, rfl, yes_S ?_⟩
    refine ⟨_, rfl, .inl ⟨rfl, _, SqL.of g1⟩, sl1, fun q hq => ?_⟩
    have fq : Fr [] H1 (upd H1 q (.lst [V.str "if"])) := Fr.new hq
    refine ⟨_, rfl, t, _, 1, _, rfl, rfl, sqT_of (fq.at ht), rfl, sl1, fun q2 hq2 => ?_⟩
    have fq2 : Fr [] H1 (upd (upd H1 q (.lst [V.str "if"])) q2 (.lst [y1])) := Fr.trans fq (Fr.new hq2)
    refine ⟨q, q2, ["if"], [a], [y1], rfl, (Fr.new (S := []) hq2).at upd_same, .inr upd_same, (RepL.one (r1.mono (Fr.imm0 fq2))), one_atom w2, (by show 1 ≤ 6; decide), (by show 1 ≤ 8; decide), one_word (by rw [words_len.2.2.2.2.1]; decide), fun H2 f2 => ?_⟩
    have f12 : Fr [] H1 H2 := Fr.trans fq2 f2
    refine ⟨r, _, _, rfl, rfl, f12.at g1, lss, ?_⟩
    have f3 : Fr [] H (upd H2 r (.lst ((((Block.iff ss a b c).ss.map stepT).map V.str) ++ [V.str (rowT ["if"] [a])]))) := Fr.put_new (Fr.trans f1 f12) hr0
    generalize h3 : upd H2 r (.lst ((((Block.iff ss a b c).ss.map stepT).map V.str) ++ [V.str (rowT ["if"] [a])])) = H3 at f3
    have g3 : H3 r = some (.lst ((((Block.iff ss a b c).ss.map stepT).map V.str) ++ [V.str (rowT ["if"] [a])])) := by rw [← h3]; exact upd_same
    have ht0 : Rep H (.tup [.str "if", a.d, b.d, c.d]) (.ref t) := hve
    obtain ⟨t', ys', et, ht', hy'⟩ := ht0.t
    cases et
    obtain ⟨z0, z1, z2, z3, rfl, q0, q1, q2', q3⟩ := hy'.c4
    have ht3 := f3.at ht'
    have l3 : ((((Block.iff ss a b c).ss.map stepT).map V.str) ++ [V.str (rowT ["if"] [a])]).length ≤ 1001 := by
      rw [List.length_append, List.length_map, List.length_map]
      exact Nat.succ_le_succ hlen
    refine ⟨_, rfl, _, rfl, t, _, 2, _, rfl, rfl, sqT_of ht3, rfl, z2, b, rfl, q2'.mono (Fr.imm0 f3), w3, ib, hb, fun H4 rA f4 hA => ?_⟩
    refine ⟨r, rA, _, _, rfl, rfl, f4.at g3, hA, Nat.le_of_lt (sl_lt (by rw [List.length_map]; omega)), fun p1 hp1 => ⟨sl1, fun p2 hp2 => ?_⟩⟩
    have n12 : p1 ≠ p2 := ne_of_none upd_same hp2
    refine ⟨p1, p2, _, _, rfl, rfl, (by rw [upd_ne n12]; exact upd_same), upd_same, Nat.le_of_lt (sl_lt (by rw [List.length_append, List.length_map]; show _ + 1 ≤ _; omega)), fun p3 hp3 => ?_⟩
    have f5 : ∀ o3, Fr [] H (upd _ p3 o3) := fun o3 => Fr.trans f3 (Fr.trans f4 (Fr.trans (Fr.new hp1) (Fr.trans (Fr.new hp2) (Fr.new hp3))))
    refine ⟨_, rfl, t, _, 3, _, rfl, rfl, sqT_of ((f5 _).at ht'), rfl, z3, c, rfl, q3.mono (Fr.imm0 (f5 _)), w4, ic, hc, fun H6 rB f6 hB => ?_⟩
    refine ⟨p3, rB, _, _, rfl, rfl, f6.at upd_same, hB, Nat.le_of_lt (sl_lt (by rw [List.length_append, List.length_append, List.length_map, List.length_map]; show _ + _ + 1 + _ ≤ _; omega)), fun p4 hp4 => ⟨sl1, fun p5 hp5 => ?_⟩⟩
    have n45 : p4 ≠ p5 := ne_of_none upd_same hp5
    refine ⟨p4, p5, _, _, rfl, rfl, (by rw [upd_ne n45]; exact upd_same), upd_same, Nat.le_of_lt (sl_lt (by rw [List.length_append, List.length_append, List.length_append, List.length_map, List.length_map]; show _ + _ + 1 + _ + 1 ≤ _; omega)), fun p6 hp6 => ?_⟩
    refine k _ p6 (Fr.trans (f5 _) (Fr.trans f6 (Fr.trans (Fr.new hp4) (Fr.trans (Fr.new hp5) (Fr.new hp6))))) ?_
    rw [upd_same]
    simp only [rowsB, List.map_append, List.append_assoc, Block.ss]
    rfl
  | leaf ss e =>
    have fin : ∀ (H2 : Hp) (x : Str), Fr [] H1 H2 → leafT e = x → H2 r = some (.lst (((Block.leaf ss e).ss.map stepT).map V.str)) ∧ Q (.ref r) (upd H2 r (.lst ((((Block.leaf ss e).ss.map stepT).map V.str) ++ [V.str x]))) := fun H2 x f2 ex => by
      refine ⟨f2.at g1, k _ r (Fr.put_new (Fr.trans f1 f2) hr0) ?_⟩
      rw [upd_same, ← ex]
      simp only [rowsB, List.map_append, Block.ss]
      rfl
    obtain ⟨n1, n2, n3, n4, n5, n6, n7, n8, n9, n10, n11, n12⟩ := ne_ends
    have w2 := wf.2
    obtain ⟨t, ys, rfl, ht, hy⟩ : ∃ t ys, ve = .ref t ∧ H1 t = some (.tup ys) ∧ RepL H1 (match e with | .give a => [.str "give", a.d] | .go f as => [.str "go", .str f, atomsD as] | .fail w => [.str "fail", .str w]) ys := by
      cases e with
      | give a => exact hve1.t
      | go f as => exact hve1.t
      | fail w => exact hve1.t
    cases e with
    | give a =>
      obtain ⟨y0, y1, rfl, r0, r1⟩ := hy.c2
      rw [rep_str] at r0
      subst r0
      refine ⟨_, rfl, t, _, 0, _, rfl, rfl, sqT_of ht, rfl, rfl, _, rfl, no_S n1 ?_⟩
      refine ⟨_, rfl, t, _, 0, _, rfl, rfl, sqT_of ht, rfl, rfl, _, rfl, no_S n4 ?_⟩
      refine ⟨_, rfl, t, _, 0, _, rfl, rfl, sqT_of ht, rfl, rfl, _, rfl, yes_S ?_⟩
      refine ⟨_, rfl, .inl ⟨rfl, _, SqL.of g1⟩, sl1, fun q hq => ?_⟩
      have fq : Fr [] H1 (upd H1 q (.lst [V.str "give"])) := Fr.new hq
      refine ⟨_, rfl, t, _, 1, _, rfl, rfl, sqT_of (fq.at ht), rfl, sl1, fun q2 hq2 => ?_⟩
      have fq2 : Fr [] H1 (upd (upd H1 q (.lst [V.str "give"])) q2 (.lst [y1])) := Fr.trans fq (Fr.new hq2)
      refine ⟨q, q2, ["give"], [a], [y1], rfl, (Fr.new (S := []) hq2).at upd_same, .inr upd_same, (RepL.one (r1.mono (Fr.imm0 fq2))), one_atom w2, (by show 1 ≤ 6; decide), (by show 1 ≤ 8; decide), one_word (by rw [words_len.2.2.1]; decide), fun H2 f2 => ?_⟩
      obtain ⟨z1, z2⟩ := fin H2 _ (Fr.trans fq2 f2) rfl
      exact ⟨r, _, _, rfl, rfl, z1, lss, _, rfl, z2⟩
    | go f as =>
      obtain ⟨y0, y1, y2, rfl, r0, r1, r2⟩ := hy.c3
      rw [rep_str] at r0 r1
      subst r0 r1
      obtain ⟨ta, zs, rfl, hta, hzs⟩ := r2.t
      refine ⟨_, rfl, t, _, 0, _, rfl, rfl, sqT_of ht, rfl, rfl, _, rfl, no_S n2 ?_⟩
      refine ⟨_, rfl, t, _, 0, _, rfl, rfl, sqT_of ht, rfl, rfl, _, rfl, yes_S ?_⟩
      refine ⟨_, rfl, .inl ⟨rfl, _, SqL.of g1⟩, _, rfl, t, _, 1, _, rfl, rfl, sqT_of ht, rfl, sl2, fun q hq => ?_⟩
      have fq : Fr [] H1 (upd H1 q (.lst [V.str "go", V.str f])) := Fr.new hq
      refine ⟨_, rfl, t, _, 2, _, rfl, rfl, sqT_of (fq.at ht), rfl, q, ta, ["go", f], as, zs, rfl, upd_same, .inl (fq.at hta), hzs.mono fq.imm0, w2.2.2, w2.2.1, (by show 2 ≤ 8; decide), two_words (by rw [words_len.2.2.2.1]; decide) w2.1.2.1, fun H2 f2 => ?_⟩
      obtain ⟨z1, z2⟩ := fin H2 _ (Fr.trans fq f2) rfl
      exact ⟨r, _, _, rfl, rfl, z1, lss, _, rfl, z2⟩
    | fail x =>
      obtain ⟨y0, y1, rfl, r0, r1⟩ := hy.c2
      rw [rep_str] at r0 r1
      subst r0 r1
      refine ⟨_, rfl, t, _, 0, _, rfl, rfl, sqT_of ht, rfl, rfl, _, rfl, no_S n3 ?_⟩
      refine ⟨_, rfl, t, _, 0, _, rfl, rfl, sqT_of ht, rfl, rfl, _, rfl, no_S n5 ?_⟩
      refine ⟨_, rfl, t, _, 0, _, rfl, rfl, sqT_of ht, rfl, rfl, _, rfl, no_S n6 ?_⟩
      obtain ⟨z1, z2⟩ := fin H1 _ (Fr.refl _ _) rfl
      refine ⟨_, rfl, .inl ⟨rfl, _, SqL.of g1⟩, _, rfl, t, _, 1, _, rfl, rfl, sqT_of ht, rfl, _, _, rfl, rfl, Nat.le_of_lt (sl_lt (by rw [words_len.2.2.2.2.2.1]; have := w2.2.1; omega)), r, _, _, rfl, rfl, z1, lss, _, rfl, z2⟩
end
end FK
/-! FKS4 -/
set_option maxHeartbeats 400000
namespace FK
open PySem PySem.Spec PyProof.Rows L2
open TL (tl)
theorem ne_call : ¬ (("let" : Str) = "call") := by decide +kernel
section
variable {P : Program} {w : World} {K : PySem.W.Frag} {mg : Str → Option Value} {base : Heap}
theorem sc_g_block_rows : FnScope ["_law_block_here", "_law_rows_here", "_law_step_here", "_law_end"] ["_law_block_here"] (defScope s_g_block_rows) := C8.fnScope_by (by decide +kernel)
theorem ok_block_rows_step (T : TX K mg) {n k : Nat} (hk : 62 ≤ k) (c__law_block_rows : C8.Cal P w K mg base k "_law_block_rows" (spRows n) []) : C8.Cal P w K mg base (k + 1) "_law_block_rows" (spRows (n + 1)) [] := by
  have c__law_row_text : C8.Cal P w K mg base 62 "_law_row_text" spWords [] := ok_row_text T
  refine cal_of T.f_g_block_rows T.g__law_block_rows sc_g_block_rows (fun _ _ _ _ _ _ us hl => match us, hl with | [_], _ => rfl) (fun vs H Q E h => ?_) (fun cdv A outer s H vs Q E hr h => ?_)
  · obtain ⟨v, b, rfl, _⟩ := h
    rfl
  obtain ⟨v, b, rfl, hv, wf, hi, h1000, k⟩ := h
  refine ⟨_, (pss_cons (ps_set (i := 1) sc_g_block_rows.nd rfl (by first | exact Or.inl rfl | exact Or.inr rfl) (pe_lst pa_nil))
      (pss_cons (ps_for PassesOwn.never rfl (pi_tup (pe_ix (r := rIxT K) ix_tup (pv 0) pe_int (fun _ _ => rfl))) (pg_name (i := 2) sc_g_block_rows.nd rfl (by first | exact Or.inl rfl | exact Or.inr rfl))
        (pss_one (ps_if (pt_cmpR op_eq (pe_ix (r := rIxT K) ix_tup (pv 2) pe_int (fun _ _ => rfl)) pe_str (nomark _)) (pss_one (ps_expr (pe_bm PySem.F.plainAttrs_list PySem.F.slot_list_append PySem.F.type_list_append mt_append (pv 1) (pa_cons (C8.pe_c c__law_row_text hr (by omega) (by rfl) (pa_cons (pe_lst (pa_cons (pe_ix (r := rIxT K) ix_tup (pv 2) pe_int (fun _ _ => rfl)) (pa_cons pe_str (pa_cons pe_str (pa_cons (pe_ix (r := rIxT K) ix_tup (pv 2) pe_int (fun _ _ => rfl)) pa_nil))))) (pa_cons (pe_ix (r := rIxT K) ix_tup (pv 2) pe_int (fun _ _ => rfl)) pa_nil))) pa_nil)))) (pss_one (ps_expr (pe_bm PySem.F.plainAttrs_list PySem.F.slot_list_append PySem.F.type_list_append mt_append (pv 1) (pa_cons (C8.pe_c c__law_row_text hr (by omega) (by rfl) (pa_cons (pe_lst (pa_cons (pe_ix (r := rIxT K) ix_tup (pv 2) pe_int (fun _ _ => rfl)) (pa_cons pe_str (pa_cons (pe_ix (r := rIxT K) ix_tup (pv 2) pe_int (fun _ _ => rfl)) pa_nil)))) (pa_cons (pe_ix (r := rIxT K) ix_tup (pv 2) pe_int (fun _ _ => rfl)) pa_nil))) pa_nil)))))))
      (pss_cons (ps_set (i := 3) sc_g_block_rows.nd rfl (by first | exact Or.inl rfl | exact Or.inr rfl) (pe_ix (r := rIxT K) ix_tup (pv 0) pe_int (fun _ _ => rfl)))
      (pss_cons (ps_if (pt_cmpR op_eq (pe_ix (r := rIxT K) ix_tup (pv 3) pe_int (fun _ _ => rfl)) pe_str (nomark _)) (pss_one (ps_ret (pe_op op_cat (pv 1) (pe_lst (pa_cons (C8.pe_c c__law_row_text hr (by omega) (by rfl) (pa_cons (pe_lst (pa_cons pe_str pa_nil)) (pa_cons (pe_lst (pa_cons (pe_ix (r := rIxT K) ix_tup (pv 3) pe_int (fun _ _ => rfl)) pa_nil)) pa_nil))) pa_nil))))) pss_nil)
      (pss_cons (ps_if (pt_cmpR op_eq (pe_ix (r := rIxT K) ix_tup (pv 3) pe_int (fun _ _ => rfl)) pe_str (nomark _)) (pss_one (ps_ret (pe_op op_cat (pv 1) (pe_lst (pa_cons (C8.pe_c c__law_row_text hr (by omega) (by rfl) (pa_cons (pe_lst (pa_cons pe_str (pa_cons (pe_ix (r := rIxT K) ix_tup (pv 3) pe_int (fun _ _ => rfl)) pa_nil))) (pa_cons (pe_ix (r := rIxT K) ix_tup (pv 3) pe_int (fun _ _ => rfl)) pa_nil))) pa_nil))))) pss_nil)
      (pss_cons (ps_if (pt_cmpR op_eq (pe_ix (r := rIxT K) ix_tup (pv 3) pe_int (fun _ _ => rfl)) pe_str (nomark _)) (pss_one (ps_ret (pe_op op_cat (pv 1) (pe_lst (pa_cons (pe_op op_add_str pe_str (pe_ix (r := rIxT K) ix_tup (pv 3) pe_int (fun _ _ => rfl))) pa_nil))))) pss_nil)
      (pss_cons (ps_set (i := 1) sc_g_block_rows.nd rfl (by first | exact Or.inl rfl | exact Or.inr rfl) (pe_op op_cat (pe_op op_cat (pv 1) (pe_lst (pa_cons (C8.pe_c c__law_row_text hr (by omega) (by rfl) (pa_cons (pe_lst (pa_cons pe_str pa_nil)) (pa_cons (pe_lst (pa_cons (pe_ix (r := rIxT K) ix_tup (pv 3) pe_int (fun _ _ => rfl)) pa_nil)) pa_nil))) pa_nil))) (C8.pe_c c__law_block_rows hr (by omega) (by rfl) (pa_cons (pe_ix (r := rIxT K) ix_tup (pv 3) pe_int (fun _ _ => rfl)) pa_nil))))
      (pss_one (ps_ret (pe_op op_cat (pe_op op_cat (pe_op op_cat (pv 1) (pe_lst (pa_cons pe_str pa_nil))) (C8.pe_c c__law_block_rows hr (by omega) (by rfl) (pa_cons (pe_ix (r := rIxT K) ix_tup (pv 3) pe_int (fun _ _ => rfl)) pa_nil))) (pe_lst (pa_cons pe_str pa_nil)))))))))))), ?_⟩
  have hss : ∀ s ∈ b.ss, WfStep s := by
    cases b with
    | leaf ss e => exact wf.1
    | iff ss a b c => exact wf.1
  have hlen : b.ss.length ≤ 1000 := Nat.le_trans (steps_len b) h1000
  rw [b.d_eq] at hv
  obtain ⟨a0, xs0, rfl, ha0, hx0⟩ := hv.t
  obtain ⟨vss, ve, rfl, hvs, hve⟩ := hx0.c2
  obtain ⟨a1, xs1, rfl, ha1, hx1⟩ := hvs.t
  refine ⟨sl0, fun r hr0 => ?_⟩
  have fr0 : Fr [] H (upd H r (.lst [])) := Fr.new hr0
  refine ⟨_, rfl, a0, _, 0, _, rfl, rfl, sqT_of (fr0.at ha0), rfl, a1, rfl, ⟨_, sqT_of (fr0.at ha1)⟩, ?_⟩
  refine for_tup (K := K) (a := a1) (xs := xs1) (fun i σ H1 => ∃ vk, σ = [some (V.ref a0), some (V.ref r), vk, none] ∧ Fr [] H H1 ∧ H1 r = some (.lst (((b.ss.take i).map stepT).map V.str))) ⟨none, rfl, Fr.new hr0, upd_same⟩ (fun i σ H1 _ ⟨vk, _, f1, _⟩ => sqT_of (f1.at ha1)) ?_ ?_
  · rintro i x σ H1 hxi ⟨vk, rfl, f1, g1⟩
    obtain ⟨d', hd, hrx⟩ := hx1.at hxi
    rw [List.getElem?_map] at hd
    obtain ⟨s', hs', rfl⟩ := Option.map_eq_some_iff.mp hd
    have ws := hss s' (List.mem_of_getElem? hs')
    have hrx1 := hrx.mono (Fr.imm0 f1)
    have lenr : (((b.ss.take i).map stepT).map V.str).length < sizeLine := by
      rw [List.length_map, List.length_map, List.length_take]
      exact sl_lt (by omega)
    cases s' with
    | let_ nm op as =>
      obtain ⟨w1, w2, w3⟩ := step_words ws
      obtain ⟨t, ys, rfl, ht, hy⟩ := hrx1.t
      obtain ⟨y0, y1, y2, y3, rfl, r0, r1, r2, r3⟩ := hy.c4
      rw [rep_str] at r0 r1 r2
      subst r0 r1 r2
      refine ⟨_, rfl, t, _, 0, _, rfl, rfl, sqT_of ht, rfl, rfl, _, rfl, no_S ne_call ?_⟩
      obtain ⟨ta, zs, rfl, hta, hzs⟩ := r3.t
      refine ⟨_, rfl, .inl ⟨rfl, _, SqL.of g1⟩, _, rfl, t, _, 1, _, rfl, rfl, sqT_of ht, rfl, _, rfl, t, _, 2, _, rfl, rfl, sqT_of ht, rfl, sl3, fun q hq => ?_⟩
      have fq : Fr [] H1 (upd H1 q (.lst [V.str nm, V.str "=", V.str op])) := Fr.new hq
      refine ⟨_, rfl, t, _, 3, _, rfl, rfl, sqT_of (fq.at ht), rfl, q, ta, [nm, "=", op], as, zs, rfl, upd_same, .inl (fq.at hta), hzs.mono fq.imm0, w3, w2, (by show 3 ≤ 8; decide), w1, fun H2 f2 => ?_⟩
      refine ⟨r, _, _, rfl, rfl, f2.at (fq.at g1), lenr, _, rfl, Fr.put_new (Fr.trans f1 (Fr.trans fq f2)) hr0, ?_⟩
      rw [upd_same, take_snoc hs', List.map_append, List.map_append]
      rfl
    | call nm f as =>
      obtain ⟨w1, w2, w3⟩ := call_words ws
      obtain ⟨t, ys, rfl, ht, hy⟩ := hrx1.t
      obtain ⟨y0, y1, y2, y3, rfl, r0, r1, r2, r3⟩ := hy.c4
      rw [rep_str] at r0 r1 r2
      subst r0 r1 r2
      refine ⟨_, rfl, t, _, 0, _, rfl, rfl, sqT_of ht, rfl, rfl, _, rfl, yes_S ?_⟩
      obtain ⟨ta, zs, rfl, hta, hzs⟩ := r3.t
      refine ⟨_, rfl, .inl ⟨rfl, _, SqL.of g1⟩, _, rfl, t, _, 1, _, rfl, rfl, sqT_of ht, rfl, _, rfl, t, _, 2, _, rfl, rfl, sqT_of ht, rfl, sl4, fun q hq => ?_⟩
      have fq : Fr [] H1 (upd H1 q (.lst [V.str nm, V.str "=", V.str "call", V.str f])) := Fr.new hq
      refine ⟨_, rfl, t, _, 3, _, rfl, rfl, sqT_of (fq.at ht), rfl, q, ta, [nm, "=", "call", f], as, zs, rfl, upd_same, .inl (fq.at hta), hzs.mono fq.imm0, w3, w2, (by show 4 ≤ 8; decide), w1, fun H2 f2 => ?_⟩
      refine ⟨r, _, _, rfl, rfl, f2.at (fq.at g1), lenr, _, rfl, Fr.put_new (Fr.trans f1 (Fr.trans fq f2)) hr0, ?_⟩
      rw [upd_same, take_snoc hs', List.map_append, List.map_append]
      rfl
  rintro σ H1 ⟨vk, rfl, f1, g1⟩
  have xl : xs1.length = b.ss.length := by rw [hx1.length, List.length_map]
  rw [xl, List.take_length] at g1
  have lss : ((b.ss.map stepT).map V.str).length < sizeLine := by
    rw [List.length_map, List.length_map]
    exact sl_lt (by omega)
  have hve1 := hve.mono (Fr.imm0 f1)
  refine ⟨_, rfl, a0, _, 1, _, rfl, rfl, sqT_of (f1.at ha0), rfl, ?_⟩
  obtain ⟨n1, n2, n3, n4, n5, n6, n7, n8, n9, n10, n11, n12⟩ := ne_ends
  cases b with
  | iff ss a b c =>
    obtain ⟨w1, w2, w3, w4⟩ := wf
    obtain ⟨t, ys, rfl, ht, hy⟩ := hve1.t
    obtain ⟨y0, y1, y2, y3, rfl, r0, r1, r2, r3⟩ := hy.c4
    rw [rep_str] at r0
    subst r0
    have hb : (rowsB b).length ≤ 1000 := by simp only [rowsB, List.length_append] at h1000; omega
    have hc : (rowsB c).length ≤ 1000 := by simp only [rowsB, List.length_append] at h1000; omega
    have ib : ifsB b < n := by simp only [ifsB] at hi; omega
    have ic : ifsB c < n := by simp only [ifsB] at hi; omega
    refine ⟨_, rfl, t, _, 0, _, rfl, rfl, sqT_of ht, rfl, rfl, _, rfl, no_S n7 ?_⟩
    refine ⟨_, rfl, t, _, 0, _, rfl, rfl, sqT_of ht, rfl, rfl, _, rfl, no_S n8 ?_⟩
    refine ⟨_, rfl, t, _, 0, _, rfl, rfl, sqT_of ht, rfl, rfl, _, rfl, no_S n9 ?_⟩
    refine ⟨_, rfl, sl1, fun q hq => ?_⟩
    have fq : Fr [] H1 (upd H1 q (.lst [V.str "if"])) := Fr.new hq
    refine ⟨_, rfl, t, _, 1, _, rfl, rfl, sqT_of (fq.at ht), rfl, sl1, fun q2 hq2 => ?_⟩
    have fq2 : Fr [] H1 (upd (upd H1 q (.lst [V.str "if"])) q2 (.lst [y1])) := Fr.trans fq (Fr.new hq2)
    refine ⟨q, q2, ["if"], [a], [y1], rfl, (Fr.new (S := []) hq2).at upd_same, .inr upd_same, (RepL.one (r1.mono (Fr.imm0 fq2))), one_atom w2, (by show 1 ≤ 6; decide), (by show 1 ≤ 8; decide), one_word (by rw [words_len.2.2.2.2.1]; decide), fun H2 f2 => ⟨sl1, fun q3 hq3 => ?_⟩⟩
    have f13 : ∀ o, Fr [] H1 (upd H2 q3 o) := fun o => Fr.trans fq2 (Fr.trans f2 (Fr.new hq3))
    refine ⟨r, q3, _, _, rfl, rfl, (f13 _).at g1, upd_same, Nat.le_of_lt (sl_lt (by rw [List.length_map, List.length_map]; show _ + 1 ≤ _; omega)), fun p0 hp0 => ?_⟩
    have f14 : ∀ o, Fr [] H1 (upd _ p0 o) := fun o => Fr.trans (f13 _) (Fr.new hp0)
    refine ⟨_, rfl, t, _, 2, _, rfl, rfl, sqT_of ((f14 _).at ht), rfl, y2, b, rfl, r2.mono (Fr.imm0 (f14 _)), w3, ib, hb, fun H4 rA f4 hA => ?_⟩
    refine ⟨p0, rA, _, _, rfl, rfl, f4.at upd_same, hA, Nat.le_of_lt (sl_lt (by rw [List.length_append, List.length_map, List.length_map, List.length_map]; show _ + 1 + _ ≤ _; omega)), fun p1 hp1 => ?_⟩
    refine ⟨_, rfl, sl1, fun p2 hp2 => ?_⟩
    have n12 : p1 ≠ p2 := ne_of_none upd_same hp2
    refine ⟨p1, p2, _, _, rfl, rfl, (by rw [upd_ne n12]; exact upd_same), upd_same, Nat.le_of_lt (sl_lt (by rw [List.length_append, List.length_append, List.length_map, List.length_map, List.length_map]; show _ + 1 + _ + 1 ≤ _; omega)), fun p3 hp3 => ?_⟩
    have f5 : ∀ o3, Fr [] H1 (upd _ p3 o3) := fun o3 => Fr.trans (f14 _) (Fr.trans f4 (Fr.trans (Fr.new hp1) (Fr.trans (Fr.new hp2) (Fr.new hp3))))
    refine ⟨_, rfl, t, _, 3, _, rfl, rfl, sqT_of ((f5 _).at ht), rfl, y3, c, rfl, r3.mono (Fr.imm0 (f5 _)), w4, ic, hc, fun H6 rB f6 hB => ?_⟩
    refine ⟨p3, rB, _, _, rfl, rfl, f6.at upd_same, hB, Nat.le_of_lt (sl_lt (by rw [List.length_append, List.length_append, List.length_append, List.length_map, List.length_map, List.length_map, List.length_map]; show _ + 1 + _ + 1 + _ ≤ _; omega)), fun p4 hp4 => ⟨sl1, fun p5 hp5 => ?_⟩⟩
    have n45 : p4 ≠ p5 := ne_of_none upd_same hp5
    refine ⟨p4, p5, _, _, rfl, rfl, (by rw [upd_ne n45]; exact upd_same), upd_same, Nat.le_of_lt (sl_lt (by rw [List.length_append, List.length_append, List.length_append, List.length_append, List.length_map, List.length_map, List.length_map, List.length_map]; show _ + 1 + _ + 1 + _ + 1 ≤ _; omega)), fun p6 hp6 => ?_⟩
    refine k _ p6 (Fr.trans f1 (Fr.trans (f5 _) (Fr.trans f6 (Fr.trans (Fr.new hp4) (Fr.trans (Fr.new hp5) (Fr.new hp6)))))) ?_
    rw [upd_same]
    simp only [rowsB, List.map_append, List.append_assoc, Block.ss]
    rfl
  | leaf ss e =>
    have fin : ∀ (H2 : Hp) (x : Str), Fr [] H1 H2 → leafT e = x → ∀ q, H2 q = none → ∃ (l b : Addr) (xs zs : List V), V.ref r = .ref l ∧ V.ref q = .ref b ∧ upd H2 q (.lst [V.str x]) l = some (.lst xs) ∧ upd H2 q (.lst [V.str x]) b = some (.lst zs) ∧ xs.length + zs.length ≤ sizeLine ∧ ∀ p, upd H2 q (.lst [V.str x]) p = none → Q (.ref p) (upd (upd H2 q (.lst [V.str x])) p (.lst (xs ++ zs))) := fun H2 x f2 ex q hq => by
      have fq : Fr [] H1 (upd H2 q (.lst [V.str x])) := Fr.trans f2 (Fr.new hq)
      refine ⟨r, q, _, _, rfl, rfl, fq.at g1, upd_same, Nat.le_of_lt (sl_lt (by rw [List.length_map, List.length_map]; show _ + 1 ≤ _; omega)), fun p hp => ?_⟩
      refine k _ p (Fr.trans f1 (Fr.trans fq (Fr.new hp))) ?_
      rw [upd_same, ← ex]
      simp only [rowsB, List.map_append, Block.ss]
      rfl
    have w2 := wf.2
    cases e with
    | give a =>
      obtain ⟨t, ys, rfl, ht, hy⟩ := hve1.t
      obtain ⟨y0, y1, rfl, r0, r1⟩ := hy.c2
      rw [rep_str] at r0
      subst r0
      refine ⟨_, rfl, t, _, 0, _, rfl, rfl, sqT_of ht, rfl, rfl, _, rfl, yes_S ?_⟩
      refine ⟨_, rfl, sl1, fun q hq => ?_⟩
      have fq : Fr [] H1 (upd H1 q (.lst [V.str "give"])) := Fr.new hq
      refine ⟨_, rfl, t, _, 1, _, rfl, rfl, sqT_of (fq.at ht), rfl, sl1, fun q2 hq2 => ?_⟩
      have fq2 : Fr [] H1 (upd (upd H1 q (.lst [V.str "give"])) q2 (.lst [y1])) := Fr.trans fq (Fr.new hq2)
      refine ⟨q, q2, ["give"], [a], [y1], rfl, (Fr.new (S := []) hq2).at upd_same, .inr upd_same, (RepL.one (r1.mono (Fr.imm0 fq2))), one_atom w2, (by show 1 ≤ 6; decide), (by show 1 ≤ 8; decide), one_word (by rw [words_len.2.2.1]; decide), fun H2 f2 => ⟨sl1, fun q3 hq3 => ?_⟩⟩
      exact fin H2 _ (Fr.trans fq2 f2) rfl q3 hq3
    | go f as =>
      obtain ⟨t, ys, rfl, ht, hy⟩ := hve1.t
      obtain ⟨y0, y1, y2, rfl, r0, r1, r2⟩ := hy.c3
      rw [rep_str] at r0 r1
      subst r0 r1
      obtain ⟨ta, zs, rfl, hta, hzs⟩ := r2.t
      refine ⟨_, rfl, t, _, 0, _, rfl, rfl, sqT_of ht, rfl, rfl, _, rfl, no_S n10 ?_⟩
      refine ⟨_, rfl, t, _, 0, _, rfl, rfl, sqT_of ht, rfl, rfl, _, rfl, yes_S ?_⟩
      refine ⟨_, rfl, _, rfl, t, _, 1, _, rfl, rfl, sqT_of ht, rfl, sl2, fun q hq => ?_⟩
      have fq : Fr [] H1 (upd H1 q (.lst [V.str "go", V.str f])) := Fr.new hq
      refine ⟨_, rfl, t, _, 2, _, rfl, rfl, sqT_of (fq.at ht), rfl, q, ta, ["go", f], as, zs, rfl, upd_same, .inl (fq.at hta), hzs.mono fq.imm0, w2.2.2, w2.2.1, (by show 2 ≤ 8; decide), two_words (by rw [words_len.2.2.2.1]; decide) w2.1.2.1, fun H2 f2 => ⟨sl1, fun q3 hq3 => ?_⟩⟩
      exact fin H2 _ (Fr.trans fq f2) rfl q3 hq3
    | fail x =>
      obtain ⟨t, ys, rfl, ht, hy⟩ := hve1.t
      obtain ⟨y0, y1, rfl, r0, r1⟩ := hy.c2
      rw [rep_str] at r0 r1
      subst r0 r1
      refine ⟨_, rfl, t, _, 0, _, rfl, rfl, sqT_of ht, rfl, rfl, _, rfl, no_S n6 ?_⟩
      refine ⟨_, rfl, t, _, 0, _, rfl, rfl, sqT_of ht, rfl, rfl, _, rfl, no_S n5 ?_⟩
      refine ⟨_, rfl, t, _, 0, _, rfl, rfl, sqT_of ht, rfl, rfl, _, rfl, yes_S ?_⟩
      refine ⟨_, rfl, _, rfl, t, _, 1, _, rfl, rfl, sqT_of ht, rfl, _, _, rfl, rfl, Nat.le_of_lt (sl_lt (by rw [words_len.2.2.2.2.2.1]; have := w2.2.1; omega)), sl1, fun q3 hq3 => ?_⟩
      exact fin H1 _ (Fr.refl _ _) rfl q3 hq3
theorem ok_rows_of (T : TX K mg) : ∀ n, C8.Cal P w K mg base (62 + n) "rows_of" (spRows n) []
  | 0 => by
    obtain ⟨f, fd, ps, ds, F, a, b, c, d⟩ := (cal_none (P := P) (w := w) (base := base) (ps := ["block"]) T.f_rows_of T.g_rows_of (fun _ _ _ _ _ _ us hl => match us, hl with | [_], _ => rfl) spRows_no).ex
    exact ⟨f, fd, ps, ds, F.mono (by decide), a, b, c, d⟩
  | n + 1 => ok_rows_of_step T (Nat.le_add_right 62 n) (ok_rows_of T n)
theorem ok_block_rows (T : TX K mg) : ∀ n, C8.Cal P w K mg base (62 + n) "_law_block_rows" (spRows n) []
  | 0 => by
    obtain ⟨f, fd, ps, ds, F, a, b, c, d⟩ := (cal_none (P := P) (w := w) (base := base) (ps := ["_law_block_here"]) T.f_g_block_rows T.g__law_block_rows (fun _ _ _ _ _ _ us hl => match us, hl with | [_], _ => rfl) spRows_no).ex
    exact ⟨f, fd, ps, ds, F.mono (by decide), a, b, c, d⟩
  | n + 1 => ok_block_rows_step T (Nat.le_add_right 62 n) (ok_block_rows T n)
end
end FK
/-! FKS5 -/
set_option maxHeartbeats 400000
namespace FK
open PySem PySem.Spec PyProof.Rows L2
open TL (tl)
/-! ### a whole program's text -/
def spShowP : Sp := fun vs H Q _ => ∃ (v : V) (p : Prog), vs = [v] ∧ Rep H (progD p) v ∧ WfP p ∧ ∀ H', Fr [] H H' → Q (.str (textP p)) H'
def spRowsP : Sp := fun vs H Q _ => ∃ (v : V) (p : Prog), vs = [v] ∧ Rep H (progD p) v ∧ WfP p ∧ ∀ H' r, Fr [] H H' → H' r = some (.lst ((rowsP p).map V.str)) → Q (.ref r) H'
theorem rowsP_take {p : Prog} {i : Nat} {f : Fn} (h : p[i]? = some f) : rowsP (p.take (i + 1)) = rowsP (p.take i) ++ (headT f :: rowsB f.body) := by
  unfold rowsP
  rw [take_snoc h, List.flatMap_append]
  congr 1
  show rowsF f ++ [] = _
  rw [List.append_nil]
  rfl
theorem rowsP_take_le (p : Prog) (i : Nat) : (rowsP (p.take i)).length ≤ (rowsP p).length := by
  have e : rowsP p = rowsP (p.take i) ++ rowsP (p.drop i) := by
    unfold rowsP
    rw [← List.flatMap_append, List.take_append_drop]
  rw [e, List.length_append]
  omega
theorem rowsP_turn {p : Prog} {i : Nat} {f : Fn} (h : p[i]? = some f) (h1000 : (rowsP p).length ≤ 1000) : (rowsP (p.take i)).length + 1 + (rowsB f.body).length ≤ 1000 := by
  have a := rowsP_take_le p (i + 1)
  rw [rowsP_take h, List.length_append, List.length_cons] at a
  omega
section
variable {P : Program} {w : World} {K : PySem.W.Frag} {mg : Str → Option Value} {base : Heap}
theorem sc_show : FnScope ["program", "rows", "name", "params", "block"] ["program"] (defScope s_show) := C8.fnScope_by (by decide +kernel)
theorem ok_show (T : TX K mg) : C8.Cal P w K mg base 72 "show" spShowP [] := by
  have c_rows_of : C8.Cal P w K mg base 71 "rows_of" (spRows 9) [] := ok_rows_of T 9
  refine cal_of T.f_show T.g_show sc_show (fun _ _ _ _ _ _ us hl => match us, hl with | [_], _ => rfl) (fun vs H Q E h => ?_) (fun cdv A outer s H vs Q E hr h => ?_)
  · obtain ⟨v, p, rfl, _⟩ := h
    rfl
  obtain ⟨v, p, rfl, hv, wf, k⟩ := h
  refine ⟨_, (pss_cons (ps_set (i := 1) sc_show.nd rfl (by first | exact Or.inl rfl | exact Or.inr rfl) (pe_lst pa_nil))
      (pss_cons (ps_for PassesOwn.never rfl (pi_tup (pv 0)) (pg_tup rfl (pgs_cons (pg_name (i := 2) sc_show.nd rfl (by first | exact Or.inl rfl | exact Or.inr rfl)) (pgs_cons (pg_name (i := 3) sc_show.nd rfl (by first | exact Or.inl rfl | exact Or.inr rfl)) (pgs_cons (pg_name (i := 4) sc_show.nd rfl (by first | exact Or.inl rfl | exact Or.inr rfl)) pgs_nil))))
        (pss_cons (ps_expr (pe_bm PySem.F.plainAttrs_list PySem.F.slot_list_append PySem.F.type_list_append mt_append (pv 1) (pa_cons (pe_join pe_str (pe_op op_cat (pe_lst (pa_cons pe_str (pa_cons (pv 2) pa_nil))) (pe_callTy call_list_of (by rfl) T.z_list (by decide +kernel) (pa_cons (pv 3) pa_nil)))) pa_nil)))
      (pss_one (ps_expr (pe_bm PySem.F.plainAttrs_list PySem.F.slot_list_extend PySem.F.type_list_extend mt_extend (pv 1) (pa_cons (C8.pe_c c_rows_of hr (by omega) (by rfl) (pa_cons (pv 4) pa_nil)) pa_nil))))))
      (pss_one (ps_ret (pe_join pe_str (pv 1)))))), ?_⟩
  obtain ⟨wfF, w200, w1000, _⟩ := id wf
  obtain ⟨a0, xs0, rfl, ha0, hx0⟩ := hv.t
  have xl : xs0.length = p.length := by rw [hx0.length, List.length_map]
  refine ⟨sl0, fun r hr0 => ?_⟩
  have fr0 : Fr [] H (upd H r (.lst [])) := Fr.new hr0
  refine ⟨_, rfl, a0, rfl, ⟨_, sqT_of (fr0.at ha0)⟩, ?_⟩
  refine for_tup (K := K) (a := a0) (xs := xs0) (fun i σ H1 => ∃ v2 v3 v4, σ = [some (V.ref a0), some (V.ref r), v2, v3, v4] ∧ Fr [] H H1 ∧ H1 r = some (.lst ((rowsP (p.take i)).map V.str))) ⟨none, none, none, rfl, Fr.new hr0, upd_same⟩ (fun i σ H1 _ ⟨_, _, _, _, f1, _⟩ => sqT_of (f1.at ha0)) ?_ ?_
  · rintro i x σ H1 hxi ⟨v2, v3, v4, rfl, f1, g1⟩
    obtain ⟨d', hd, hrx⟩ := hx0.at hxi
    rw [List.getElem?_map] at hd
    obtain ⟨f, hf, rfl⟩ := Option.map_eq_some_iff.mp hd
    have wff := wfF f (List.mem_of_getElem? hf)
    have lens := rowsP_turn hf w1000
    obtain ⟨t, ys, rfl, ht, hy⟩ := hrx.t
    obtain ⟨y0, y1, y2, rfl, r0, r1, r2⟩ := hy.c3
    rw [rep_str] at r0
    subst r0
    obtain ⟨tp, ps, rfl, htp, hps⟩ := r1.t
    have eps := repL_strs_eq hps
    subst eps
    refine ⟨t, _, rfl, sqT_of (f1.at ht), rfl, _, _, rfl, _, _, rfl, _, _, rfl, rfl, ?_⟩
    refine ⟨_, rfl, .inl ⟨rfl, _, SqL.of g1⟩, ⟨_, rfl⟩, _, rfl, sl2, fun q hq => ?_⟩
    have fq : ∀ o, Fr [] H1 (upd H1 q o) := fun o => Fr.new hq
    refine ⟨_, rfl, tp, _, rfl, .inr (sqT_of ((fq _).at (f1.at htp))), fun l hl => ?_⟩
    have fl : ∀ o, Fr [] H1 (upd _ l o) := fun o => Fr.trans (fq _) (Fr.new hl)
    have nql : q ≠ l := ne_of_none upd_same hl
    refine ⟨q, l, _, _, rfl, rfl, (by rw [upd_ne nql]; exact upd_same), upd_same, Nat.le_of_lt (sl_lt (by rw [List.length_map]; have := wff.2.1; show 2 + _ ≤ _; omega)), fun p1 hp1 => ?_⟩
    have f2 : ∀ o, Fr [] H1 (upd _ p1 o) := fun o => Fr.trans (fl _) (Fr.new hp1)
    refine ⟨_, p1, [("fun" : Str), f.name] ++ f.params, rfl, rfl, .inl (SqL.of (by rw [upd_same, List.map_append]; rfl)), Nat.le_trans (head_sum wff) (by decide), ?_⟩
    refine ⟨r, _, _, rfl, rfl, (f2 _).at g1, sl_lt (by rw [List.length_map]; omega), ?_⟩
    have f3 : ∀ o1 o, Fr [] H (upd (upd _ p1 o1) r o) := fun o1 o => Fr.put_new (Fr.trans f1 (f2 o1)) hr0
    refine ⟨_, rfl, .inl ⟨rfl, _, SqL.of upd_same⟩, _, rfl, y2, f.body, rfl, r2.mono (Fr.imm0 (f3 _ _)), wff.2.2.2.1, by have := wff.2.2.2.2.1; omega, by omega, fun H4 rA f4 hA => ?_⟩
    refine ⟨r, rA, _, _, rfl, rfl, f4.at upd_same, hA, Nat.le_of_lt (sl_lt (by rw [List.length_append, List.length_map, List.length_map]; show _ + 1 + _ ≤ _; omega)), ?_⟩
    refine ⟨_, _, _, rfl, Fr.put_new (Fr.trans (f3 _ _) f4) hr0, ?_⟩
    rw [upd_same, rowsP_take hf, List.map_append, List.append_assoc]
    rfl
  · rintro σ H1 ⟨v2, v3, v4, rfl, f1, g1⟩
    rw [xl, List.take_length] at g1
    exact ⟨⟨_, rfl⟩, _, rfl, _, r, rowsP p, rfl, rfl, .inl (SqL.of g1), Nat.le_trans (text_sum wf) (by decide), k H1 f1⟩
theorem sc_g_rows : FnScope ["_law_program_here", "_law_rows_here", "_law_name_here", "_law_params", "_law_block_here"] ["_law_program_here"] (defScope s_g_rows) := C8.fnScope_by (by decide +kernel)
theorem ok_law_rows (T : TX K mg) : C8.Cal P w K mg base 72 "_law_rows" spRowsP [] := by
  have c__law_block_rows : C8.Cal P w K mg base 71 "_law_block_rows" (spRows 9) [] := ok_block_rows T 9
  refine cal_of T.f_g_rows T.g__law_rows sc_g_rows (fun _ _ _ _ _ _ us hl => match us, hl with | [_], _ => rfl) (fun vs H Q E h => ?_) (fun cdv A outer s H vs Q E hr h => ?_)
  · obtain ⟨v, p, rfl, _⟩ := h
    rfl
  obtain ⟨v, p, rfl, hv, wf, k⟩ := h
  refine ⟨_, (pss_cons (ps_set (i := 1) sc_g_rows.nd rfl (by first | exact Or.inl rfl | exact Or.inr rfl) (pe_lst pa_nil))
      (pss_cons (ps_for PassesOwn.never rfl (pi_tup (pv 0)) (pg_tup rfl (pgs_cons (pg_name (i := 2) sc_g_rows.nd rfl (by first | exact Or.inl rfl | exact Or.inr rfl)) (pgs_cons (pg_name (i := 3) sc_g_rows.nd rfl (by first | exact Or.inl rfl | exact Or.inr rfl)) (pgs_cons (pg_name (i := 4) sc_g_rows.nd rfl (by first | exact Or.inl rfl | exact Or.inr rfl)) pgs_nil))))
        (pss_cons (ps_expr (pe_bm PySem.F.plainAttrs_list PySem.F.slot_list_append PySem.F.type_list_append mt_append (pv 1) (pa_cons (pe_join pe_str (pe_op op_cat (pe_lst (pa_cons pe_str (pa_cons (pv 2) pa_nil))) (pe_callTy call_list_of (by rfl) T.z_list (by decide +kernel) (pa_cons (pv 3) pa_nil)))) pa_nil)))
      (pss_one (ps_set (i := 1) sc_g_rows.nd rfl (by first | exact Or.inl rfl | exact Or.inr rfl) (pe_op op_cat (pv 1) (C8.pe_c c__law_block_rows hr (by omega) (by rfl) (pa_cons (pv 4) pa_nil)))))))
      (pss_one (ps_ret (pv 1))))), ?_⟩
  obtain ⟨wfF, w200, w1000, _⟩ := id wf
  obtain ⟨a0, xs0, rfl, ha0, hx0⟩ := hv.t
  have xl : xs0.length = p.length := by rw [hx0.length, List.length_map]
  refine ⟨sl0, fun r0' hr0 => ?_⟩
  have fr0 : Fr [] H (upd H r0' (.lst [])) := Fr.new hr0
  refine ⟨_, rfl, a0, rfl, ⟨_, sqT_of (fr0.at ha0)⟩, ?_⟩
  refine for_tup (K := K) (a := a0) (xs := xs0) (fun i σ H1 => ∃ r v2 v3 v4, σ = [some (V.ref a0), some (V.ref r), v2, v3, v4] ∧ Fr [] H H1 ∧ H r = none ∧ H1 r = some (.lst ((rowsP (p.take i)).map V.str))) ⟨r0', none, none, none, rfl, Fr.new hr0, hr0, upd_same⟩ (fun i σ H1 _ ⟨_, _, _, _, _, f1, _⟩ => sqT_of (f1.at ha0)) ?_ ?_
  · rintro i x σ H1 hxi ⟨r, v2, v3, v4, rfl, f1, hr0, g1⟩
    obtain ⟨d', hd, hrx⟩ := hx0.at hxi
    rw [List.getElem?_map] at hd
    obtain ⟨f, hf, rfl⟩ := Option.map_eq_some_iff.mp hd
    have wff := wfF f (List.mem_of_getElem? hf)
    have lens := rowsP_turn hf w1000
    obtain ⟨t, ys, rfl, ht, hy⟩ := hrx.t
    obtain ⟨y0, y1, y2, rfl, r0, r1, r2⟩ := hy.c3
    rw [rep_str] at r0
    subst r0
    obtain ⟨tp, ps, rfl, htp, hps⟩ := r1.t
    have eps := repL_strs_eq hps
    subst eps
    refine ⟨t, _, rfl, sqT_of (f1.at ht), rfl, _, _, rfl, _, _, rfl, _, _, rfl, rfl, ?_⟩
    refine ⟨_, rfl, .inl ⟨rfl, _, SqL.of g1⟩, ⟨_, rfl⟩, _, rfl, sl2, fun q hq => ?_⟩
    have fq : ∀ o, Fr [] H1 (upd H1 q o) := fun o => Fr.new hq
    refine ⟨_, rfl, tp, _, rfl, .inr (sqT_of ((fq _).at (f1.at htp))), fun l hl => ?_⟩
    have fl : ∀ o, Fr [] H1 (upd _ l o) := fun o => Fr.trans (fq _) (Fr.new hl)
    have nql : q ≠ l := ne_of_none upd_same hl
    refine ⟨q, l, _, _, rfl, rfl, (by rw [upd_ne nql]; exact upd_same), upd_same, Nat.le_of_lt (sl_lt (by rw [List.length_map]; have := wff.2.1; show 2 + _ ≤ _; omega)), fun p1 hp1 => ?_⟩
    have f2 : ∀ o, Fr [] H1 (upd _ p1 o) := fun o => Fr.trans (fl _) (Fr.new hp1)
    refine ⟨_, p1, [("fun" : Str), f.name] ++ f.params, rfl, rfl, .inl (SqL.of (by rw [upd_same, List.map_append]; rfl)), Nat.le_trans (head_sum wff) (by decide), ?_⟩
    refine ⟨r, _, _, rfl, rfl, (f2 _).at g1, sl_lt (by rw [List.length_map]; omega), ?_⟩
    have f3 : ∀ o1 o, Fr [] H (upd (upd _ p1 o1) r o) := fun o1 o => Fr.put_new (Fr.trans f1 (f2 o1)) hr0
    refine ⟨_, rfl, _, rfl, y2, f.body, rfl, r2.mono (Fr.imm0 (f3 _ _)), wff.2.2.2.1, by have := wff.2.2.2.2.1; omega, by omega, fun H4 rA f4 hA => ?_⟩
    refine ⟨r, rA, _, _, rfl, rfl, f4.at upd_same, hA, Nat.le_of_lt (sl_lt (by rw [List.length_append, List.length_map, List.length_map]; show _ + 1 + _ ≤ _; omega)), fun p2 hp2 => ?_⟩
    have f5 : ∀ o, Fr [] H (upd H4 p2 o) := fun o => Fr.trans (Fr.trans (f3 _ _) f4) (Fr.new hp2)
    refine ⟨p2, _, _, _, rfl, f5 _, (Fr.same (Fr.trans (f3 _ _) f4)).free hp2, ?_⟩
    rw [upd_same, rowsP_take hf, List.map_append, List.append_assoc]
    rfl
  · rintro σ H1 ⟨r, v2, v3, v4, rfl, f1, hr0, g1⟩
    rw [xl, List.take_length] at g1
    exact ⟨_, rfl, k H1 r f1 g1⟩
end
end FK
/-! FKP1 -/
set_option maxHeartbeats 400000
namespace FK
open PySem PySem.Spec PyProof.Rows L2
open TL (tl)
/-! ### words, names, numbers from text -/
theorem ifNB {p : Prop} [Decidable p] {A B : Prop} (h1 : ¬ p → A) (h2 : p → B) : if (!decide p) = true then A else B := by
  by_cases e : p
  · rw [decide_eq_true e]
    exact iteF (h2 e)
  · rw [decide_eq_false e]
    exact iteT (h1 e)
def madeB (t s : Str) : Bool := (tl t).all fun c => decide (c ∈ tl s)
theorem madeB_iff {t s : Str} : madeB t s = true ↔ ∀ c ∈ tl t, c ∈ tl s := by
  unfold madeB
  rw [List.all_eq_true]
  exact ⟨fun h c hc => of_decide_eq_true (h c hc), fun h c hc => decide_eq_true (h c hc)⟩
def spMade : Sp := fun vs H Q _ => ∃ t s : Str, vs = [.str t, .str s] ∧ Q (.bl (madeB t s)) H
def spIsWord : Sp := fun vs H Q _ => ∃ t : Str, vs = [.str t] ∧ t.length ≤ sizeLine ∧ ∀ b : Bool, (b = true ↔ IsWord t) → Q (.bl b) H
def spIsName : Sp := fun vs H Q _ => ∃ t : Str, vs = [.str t] ∧ t.length ≤ sizeLine ∧ ∀ b : Bool, (b = true ↔ IsName t) → Q (.bl b) H
theorem tl_letters : tl ("abcdefghijklmnopqrstuvwxyz" : Str) = letters := by decide +kernel
theorem tl_figures : tl ("0123456789" : Str) = figures := by decide +kernel
section
variable {P : Program} {w : World} {K : PySem.W.Frag} {mg : Str → Option Value} {base : Heap}
theorem sc_made_of : FnScope ["text", "signs", "sign"] ["text", "signs"] (defScope s_made_of) := C8.fnScope_by (by decide +kernel)
theorem ok_made_of (T : TX K mg) : C8.Cal P w K mg base 1 "made_of" spMade [] := by
  refine cal_of T.f_made_of T.g_made_of sc_made_of (fun _ _ _ _ _ _ us hl => match us, hl with | [_, _], _ => rfl) (fun vs H Q E h => ?_) (fun cdv A outer s H vs Q E hr h => ?_)
  · obtain ⟨t, s, rfl, _⟩ := h
    rfl
  obtain ⟨t, z, rfl, k⟩ := h
  refine ⟨_, (pss_cons (ps_for PassesOwn.never rfl (pi_str (pv 0)) (pg_name (i := 2) sc_made_of.nd rfl (by first | exact Or.inl rfl | exact Or.inr rfl))
        (pss_one (ps_if (pt_cmpR op_notIn_sign (pv 2) (pv 1) (by rfl)) (pss_one (ps_ret pe_bl)) pss_nil)))
      (pss_one (ps_ret pe_bl))), ?_⟩
  refine ⟨_, rfl, t, rfl, ?_⟩
  refine for_it walk_str (fun i σ H1 => ∃ vk, σ = [some (V.str t), some (V.str z), vk] ∧ H1 = H ∧ ∀ c ∈ (tl t).take i, c ∈ tl z) ⟨none, rfl, rfl, by simp⟩ (fun _ _ _ _ _ => trivial) ?_ ?_
  · rintro i x σ H1 H2 hi ⟨vk, rfl, rfl, g⟩ ⟨rfl, c, hc, rfl⟩
    have hc2 : (tl t)[i]? = some c := by rw [← hc]; exact Array.getElem?_toList
    refine ⟨_, rfl, _, rfl, c, z, rfl, rfl, _, rfl, ?_⟩
    refine ifNB (fun m => ?_) fun m => ?_
    rotate_left
    · refine ⟨_, rfl, rfl, fun d hd => ?_⟩
      rw [List.take_add_one, hc2] at hd
      rcases List.mem_append.mp hd with hd | hd
      · exact g d hd
      · rw [List.mem_singleton.mp hd]
        exact m
    · have e : madeB t z = false := by
        cases y : madeB t z with
        | false => rfl
        | true => exact absurd (madeB_iff.mp y c (List.mem_of_getElem? hc2)) m
      show Q (.bl false) _
      rw [← e]
      exact k
  · rintro σ H1 ⟨vk, rfl, rfl, g⟩
    have e : madeB t z = true := madeB_iff.mpr fun c hc => g c (by
      rw [List.take_of_length_le (by show (tl t).length ≤ t.cps.size; simp)]
      exact hc)
    show Q (.bl true) _
    rw [← e]
    exact k
theorem sc_is_word : FnScope ["text"] ["text"] (defScope s_is_word) := C8.fnScope_by (by decide +kernel)
theorem ok_is_word (T : TX K mg) : C8.Cal P w K mg base 2 "is_word" spIsWord [] := by
  have c_made_of : C8.Cal P w K mg base 1 "made_of" spMade [] := ok_made_of T
  refine cal_of T.f_is_word T.g_is_word sc_is_word (fun _ _ _ _ _ _ us hl => match us, hl with | [_], _ => rfl) (fun vs H Q E h => ?_) (fun cdv A outer s H vs Q E hr h => ?_)
  · obtain ⟨t, rfl, _⟩ := h
    rfl
  obtain ⟨t, rfl, hl, k⟩ := h
  refine ⟨_, (pss_one (ps_ret (pe_and (pe_chain op_le op_le pe_int (pe_callB call_len_str (by rfl) T.z_len (by decide +kernel) (pa_cons (pv 0) pa_nil)) (C8.pe_gc (by rfl) T.c_MOST_SIGNS)) (pe_one (C8.pe_c c_made_of hr (by omega) (by rfl) (pa_cons (pv 0) (pa_cons (C8.pe_gc (by rfl) T.c_LETTERS) pa_nil))))))), ?_⟩
  have no : ¬ IsWord t → Q (.bl false) H := fun n => k false ⟨fun z => (Bool.false_ne_true z).elim, fun z => absurd z n⟩
  refine ⟨_, rfl, t, rfl, hl, _, _, rfl, rfl, _, rfl, ifB (fun c1 => ⟨_, _, rfl, rfl, _, rfl, ifB (fun c2 => ?_) fun c2 => ?_⟩) fun c1 => ⟨_, rfl, ?_⟩⟩
  · refine ⟨_, rfl, t, _, rfl, k _ ?_⟩
    rw [madeB_iff, tl_letters]
    exact ⟨fun h => ⟨by omega, by omega, h⟩, fun h => h.2.2⟩
  · exact no fun h => c2 (by have := h.2.1; omega)
  · rw [if_neg (by simp)]
    exact no fun h => c1 (by have := h.1; omega)
theorem sc_is_name : FnScope ["text"] ["text"] (defScope s_is_name) := C8.fnScope_by (by decide +kernel)
theorem ok_is_name (T : TX K mg) : C8.Cal P w K mg base 2 "is_name" spIsName [] := by
  have c_made_of : C8.Cal P w K mg base 1 "made_of" spMade [] := ok_made_of T
  refine cal_of T.f_is_name T.g_is_name sc_is_name (fun _ _ _ _ _ _ us hl => match us, hl with | [_], _ => rfl) (fun vs H Q E h => ?_) (fun cdv A outer s H vs Q E hr h => ?_)
  · obtain ⟨t, rfl, _⟩ := h
    rfl
  obtain ⟨t, rfl, hl, k⟩ := h
  refine ⟨_, (pss_cons (ps_if (pt_not (pt_chain op_le op_le pe_int (pe_callB call_len_str (by rfl) T.z_len (by decide +kernel) (pa_cons (pv 0) pa_nil)) (C8.pe_gc (by rfl) T.c_MOST_SIGNS))) (pss_one (ps_ret pe_bl)) pss_nil)
      (pss_one (ps_ret (pe_and (pe_cmpR op_in_sign (pe_ix ix_str (pv 0) pe_int (fun _ _ => rfl)) (C8.pe_gc (by rfl) T.c_LETTERS) (by rfl)) (pe_one (C8.pe_c c_made_of hr (by omega) (by rfl) (pa_cons (pv 0) (pa_cons (pe_op op_add_str (C8.pe_gc (by rfl) T.c_LETTERS) (C8.pe_gc (by rfl) T.c_FIGURES)) pa_nil)))))))), ?_⟩
  have no : ¬ IsName t → Q (.bl false) H := fun n => k false ⟨fun z => (Bool.false_ne_true z).elim, fun z => absurd z n⟩
  refine ⟨_, rfl, t, rfl, hl, _, _, rfl, rfl, _, rfl, ifB (fun c1 => ⟨_, _, rfl, rfl, _, rfl, ifNB (fun c2 => no fun h => c2 (by have := h.2.1; omega)) fun c2 => ?_⟩) fun c1 => ⟨_, rfl, iteT (no fun h => c1 (by have := h.1; omega))⟩⟩
  cases hx : tl t with
  | nil =>
    have := len_tl t
    rw [hx] at this
    rw [this] at c1
    exact absurd c1 (by decide)
  | cons c r =>
    have h0 : atI t.cps.toList 0 = some c := by
      have e : t.cps.toList = c :: r := hx
      rw [e]
      exact atI_get? (by decide) rfl
    refine ⟨_, rfl, t, 0, c, rfl, rfl, hl, h0, c, _, rfl, rfl, _, rfl, ifB (fun c3 => ?_) fun c3 => no fun h => c3 ?_⟩
    · refine ⟨_, rfl, _, _, rfl, rfl, (by decide), t, _, rfl, k _ ?_⟩
      rw [madeB_iff, tl_app, tl_letters, tl_figures]
      have c3' : c ∈ letters := by
        have e : ("abcdefghijklmnopqrstuvwxyz" : Str).cps.toList = letters := tl_letters
        rw [e] at c3
        exact c3
      exact ⟨fun h => ⟨by omega, by omega, ⟨c, r, hx, c3'⟩, h⟩, fun h => h.2.2.2⟩
    · obtain ⟨c', r', e1, e2⟩ := h.2.2.1
      rw [hx] at e1
      cases e1
      have e : ("abcdefghijklmnopqrstuvwxyz" : Str).cps.toList = letters := tl_letters
      rw [e]
      exact e2
end
end FK
/-! FKP2 -/
set_option maxHeartbeats 400000
namespace FK
open PySem PySem.Spec PyProof.Rows L2
open TL (tl)
theorem str_eq {x y : Str} (h : tl x = tl y) : x = y := TL.ext_tl h
theorem numL_head : ∀ n : Nat, 0 < n → ∃ c r, TL.numL n = c :: r ∧ c ≠ 48 := by
  intro n
  induction n using Nat.strongRecOn with
  | ind n ih =>
    intro h
    by_cases h10 : n < 10
    · exact ⟨48 + n, [], TL.numL_lt h10, by omega⟩
    · obtain ⟨c, r, e, hc⟩ := ih (n / 10) (by omega) (by omega)
      exact ⟨c, r ++ [48 + n % 10], by rw [TL.numL_step (by omega), e]; rfl, hc⟩
theorem sIx1 (n : Nat) : HT.sIx n n (some 1) = min 1 n := by
  show (if (1 : Int) < 0 then (1 + (n : Int)).toNat else min (1 : Int).toNat n) = _
  rw [if_neg (by decide)]
  rfl
theorem sIx1' (n : Nat) : HT.sIx n 0 (some 1) = min 1 n := by
  show (if (1 : Int) < 0 then (1 + (n : Int)).toNat else min (1 : Int).toNat n) = _
  rw [if_neg (by decide)]
  rfl
theorem cut_first {z : Str} {c : Nat} {r : List Nat} (h : tl z = c :: r) : cutS z none (some 1) = ⟨#[c]⟩ := by
  refine str_eq ?_
  have hl : z.length = r.length + 1 := by rw [len_tl, h]; rfl
  show (z.cps.toList.drop (HT.sIx z.length 0 none)).take (HT.sIx z.length z.length (some 1) - HT.sIx z.length 0 none) = [c]
  have e : z.cps.toList = c :: r := h
  rw [sIx1, e, hl]
  show (c :: r).take (min 1 (r.length + 1) - 0) = [c]
  have : min 1 (r.length + 1) - 0 = 1 := by omega
  rw [this]
  rfl
theorem cut_rest {z : Str} {c : Nat} {r : List Nat} (h : tl z = c :: r) : tl (cutS z (some 1) none) = r := by
  have hl : z.length = r.length + 1 := by rw [len_tl, h]; rfl
  show (z.cps.toList.drop (HT.sIx z.length 0 (some 1))).take (HT.sIx z.length z.length none - HT.sIx z.length 0 (some 1)) = r
  have e : z.cps.toList = c :: r := h
  rw [sIx1', e, hl]
  show ((c :: r).drop (min 1 (r.length + 1))).take ((r.length + 1) - min 1 (r.length + 1)) = r
  have : min 1 (r.length + 1) = 1 := by omega
  rw [this]
  show r.take (r.length + 1 - 1) = r
  rw [List.take_of_length_le (by omega)]
theorem tl_minus : tl ("-" : Str) = [45] := by decide +kernel
theorem tl_zero : tl ("0" : Str) = [48] := by decide +kernel
def intS (i : Int) : Str := Str.ofString (toString i)
theorem intS_reads {i : Int} (h : -(10 ^ 18) < i ∧ i < 10 ^ 18) : PySem.intText? (intS i) = some i := by
  have hl := len_int h
  cases i with
  | ofNat n =>
    have e := tl_nat n
    have d := intText_digits (x := intS (Int.ofNat n)) (by show NumText.AllDigits (tl (intS _)); rw [show tl (intS (Int.ofNat n)) = TL.numL n from e]; exact TL.numL_digits n) (by show tl (intS _) ≠ []; rw [show tl (intS (Int.ofNat n)) = TL.numL n from e]; exact TL.numL_ne n) (Nat.le_trans hl (by decide))
    rw [d]
    show some ((NumText.digitsVal (tl (intS _)) : Nat) : Int) = _
    rw [show tl (intS (Int.ofNat n)) = TL.numL n from e, TL.numL_val]
    rfl
  | negSucc n =>
    have d := intText_neg (x := intS (Int.negSucc n)) (cs := TL.numL (n + 1)) (tl_neg n) (TL.numL_digits _) (TL.numL_ne _) (Nat.le_trans hl (by decide))
    rw [d, TL.numL_val]
    rfl
theorem figs {n : Nat} : ∀ c ∈ TL.numL n, c ∈ figures := fun c hc => by
  have h := TL.numL_digits n c hc
  have : ∀ k : Nat, k < 10 → 48 + k ∈ figures := by decide
  have e : c = 48 + (c - 48) := by omega
  rw [e]
  exact this _ (by omega)
def spNum : Sp := fun vs H Q _ => ∃ i : Int, vs = [.str (intS i)] ∧ (-(10 ^ 18) < i ∧ i < 10 ^ 18) ∧ Q (.int i) H
section
variable {P : Program} {w : World} {K : PySem.W.Frag} {mg : Str → Option Value} {base : Heap}
theorem sc_number_of : FnScope ["text", "figures"] ["text"] (defScope s_number_of) := C8.fnScope_by (by decide +kernel)
theorem ok_number_of (T : TX K mg) : C8.Cal P w K mg base 2 "number_of" spNum [] := by
  have c_made_of : C8.Cal P w K mg base 1 "made_of" spMade [] := ok_made_of T
  refine cal_of T.f_number_of T.g_number_of sc_number_of (fun _ _ _ _ _ _ us hl => match us, hl with | [_], _ => rfl) (fun vs H Q E h => ?_) (fun cdv A outer s H vs Q E hr h => ?_)
  · obtain ⟨i, rfl, _⟩ := h
    rfl
  obtain ⟨i, rfl, hi, k⟩ := h
  refine ⟨_, (pss_cons (ps_set (i := 1) sc_number_of.nd rfl (by first | exact Or.inl rfl | exact Or.inr rfl) (pv 0))
      (C8.pss_cut (ps_if (pt_cmpR op_eq (pe_slice sl_str (pv 0) po_none (po_some pe_int)) pe_str (nomark _)) (pss_one (ps_set (i := 1) sc_number_of.nd rfl (by first | exact Or.inl rfl | exact Or.inr rfl) (pe_slice sl_str (pv 0) (po_some pe_int) po_none))) pss_nil)
      (pss_cons (ps_if (PW.pt (pw_or (pt_not (pt_chain op_le op_le pe_int (pe_callB call_len_str (by rfl) T.z_len (by decide +kernel) (pa_cons (pv 1) pa_nil)) (C8.pe_gc (by rfl) T.c_MOST_FIGURES))) (pw_or1 (pt_not (pt_val (C8.pe_c c_made_of hr (by omega) (by rfl) (pa_cons (pv 1) (pa_cons (C8.pe_gc (by rfl) T.c_FIGURES) pa_nil)))))))) (pss_one ps_never) pss_nil)
      (pss_cons (ps_if (PW.pt (pw_and (pt_cmpR op_eq (pe_ix ix_str (pv 1) pe_int (fun _ _ => rfl)) pe_str (nomark _)) (pw_and1 (pt_cmpR op_ne (pv 0) pe_str (nomark _))))) (pss_one ps_never) pss_nil)
      (pss_one (ps_ret (pe_callTy call_int_str (by rfl) T.z_int (by decide +kernel) (pa_cons (pv 0) pa_nil)))))))), ?_⟩
  have hl : (intS i).length ≤ 19 := len_int hi
  have hrd := intS_reads hi
  refine ⟨_, rfl, fun σ H1 => ∃ (f : Str) (m : Nat), σ = [some (.str (intS i)), some (.str f)] ∧ H1 = H ∧ tl f = TL.numL m ∧ m < 10 ^ 18 ∧ (m = 0 → intS i = "0"), ?_, ?tail⟩
  · refine ⟨_, rfl, 1, rfl, _, rfl, sl_le (by omega), rfl, _, rfl, ?_⟩
    cases i with
    | ofNat n =>
      have e : tl (intS (Int.ofNat n)) = TL.numL n := tl_nat n
      have hn : n < 10 ^ 18 := by have h2 : ((n : Nat) : Int) < 10 ^ 18 := hi.2; omega
      have ne : ¬ cutS (intS (Int.ofNat n)) none (some 1) = "-" := by
        cases hx : TL.numL n with
        | nil => exact absurd hx (TL.numL_ne n)
        | cons c r =>
          rw [hx] at e
          rw [cut_first e]
          intro z
          have z2 := congrArg tl z
          rw [tl_minus] at z2
          have z3 : c = 45 := by injection z2
          exact TL.numL_free (n := n) (s := c) (by omega) (by rw [hx]; exact List.mem_cons_self)
      refine ifS (fun q => absurd q ne) fun _ => ?_
      refine ⟨_, n, rfl, rfl, e, hn, fun z => str_eq ?_⟩
      rw [e, z, tl_zero]
      rfl
    | negSucc n =>
      have e : tl (intS (Int.negSucc n)) = 45 :: TL.numL (n + 1) := tl_neg n
      have hn : n + 1 < 10 ^ 18 := by have := hi.1; omega
      refine ifS (fun _ => ?_) fun q => absurd (by rw [cut_first e]; exact str_eq tl_minus.symm) q
      exact ⟨_, rfl, 1, rfl, _, rfl, sl_le (by omega), _, n + 1, rfl, rfl, cut_rest e, hn, fun z => by omega⟩
  case tail =>
  rintro σ H1 ⟨f, m, rfl, rfl, hf, hm, h0⟩
  have fl : f.length ≤ 18 := by rw [len_tl, hf]; exact TL.numL_len (by decide) hm
  have f1 : 1 ≤ f.length := by
    rw [len_tl, hf]
    have := List.length_pos_iff.mpr (TL.numL_ne m)
    omega
  have hmade : madeB f "0123456789" = true := madeB_iff.mpr (by rw [hf, tl_figures]; exact figs)
  refine ⟨_, rfl, f, rfl, sl_le (by omega), _, _, rfl, rfl, _, rfl, ifB (fun c1 => ⟨_, _, rfl, rfl, _, rfl, ifNB (fun c2 => absurd (by omega) c2) fun _ => ?_⟩) fun c1 => absurd (by omega) c1⟩
  refine ⟨_, rfl, f, _, rfl, _, rfl, ?_⟩
  rw [hmade]
  cases hx : TL.numL m with
  | nil => exact absurd hx (TL.numL_ne m)
  | cons c r =>
    rw [hx] at hf
    have h00 : atI f.cps.toList 0 = some c := by
      have e : f.cps.toList = c :: r := hf
      rw [e]
      exact atI_get? (by decide) rfl
    have go : Q (.int i) H1 := k
    refine iteF ⟨_, rfl, f, 0, c, rfl, rfl, sl_le (by omega), h00, rfl, _, rfl, ifS (fun c3 => ?_) fun _ => ?_⟩
    · have z2 := congrArg tl c3
      rw [tl_zero] at z2
      have z3 : c = 48 := by injection z2
      have hm0 : m = 0 := by
        by_cases z : m = 0
        · exact z
        · obtain ⟨c', r', e1, e2⟩ := numL_head m (by omega)
          rw [hx] at e1
          injection e1 with e3
          omega
      exact ⟨_, rfl, rfl, _, rfl, ifNS (fun ne => absurd (h0 hm0) ne) fun _ => ⟨_, rfl, _, _, rfl, hrd, by omega, go⟩⟩
    · exact ⟨_, rfl, _, _, rfl, hrd, by omega, go⟩
end
end FK
/-! FKP3 -/
set_option maxHeartbeats 400000
namespace FK
open PySem PySem.Spec PyProof.Rows L2
open TL (tl)
/-! ### the reader's object -/
def sgF (t : Str) (n r : Int) : List (Str × V) := [("text", .str t), ("at", .int n), ("room", .int r)]
theorem sg_text (t : Str) (n r : Int) : (sgF t n r).lookup ("text" : Str) = some (V.str t) := by with_unfolding_all rfl
theorem sg_at (t : Str) (n r : Int) : (sgF t n r).lookup ("at" : Str) = some (V.int n) := by with_unfolding_all rfl
theorem sg_room (t : Str) (n r : Int) : (sgF t n r).lookup ("room" : Str) = some (V.int r) := by with_unfolding_all rfl
theorem sg_put_at (t : Str) (n r m : Int) : putF "at" (.int m) (sgF t n r) = sgF t m r := by with_unfolding_all rfl
theorem sg_put_room (t : Str) (n r m : Int) : putF "room" (.int m) (sgF t n r) = sgF t n m := by with_unfolding_all rfl
theorem sg_meths (t : Str) (n r : Int) : (sgF t n r).lookup ("take" : Str) = none ∧ (sgF t n r).lookup ("piece" : Str) = none ∧ (sgF t n r).lookup ("next_word" : Str) = none ∧ (sgF t n r).lookup ("more" : Str) = none := by
  refine ⟨?_, ?_, ?_, ?_⟩ <;> with_unfolding_all rfl
def SG (K : PySem.W.Frag) (H : Hp) (a : Addr) (t : Str) (pre rest : List Nat) (r : Int) : Prop :=
  tl t = pre ++ rest ∧ t.length ≤ 1000000 ∧ ∃ dx, H a = some (.ins (He.ga K "Signs") dx (sgF t (pre.length : Int) r))
theorem SG.keep {K : PySem.W.Frag} {S : List Addr} {H H' : Hp} {a : Addr} {t : Str} {pre rest : List Nat} {r : Int} (h : SG K H a t pre rest r) (f : Fr S H H') (n : a ∉ S) : SG K H' a t pre rest r := by
  obtain ⟨h1, h2, dx, h3⟩ := h
  exact ⟨h1, h2, dx, f a _ h3 n⟩
theorem SG.soft {K : PySem.W.Frag} {H : Hp} {a : Addr} {t : Str} {pre rest : List Nat} {r : Int} (h : SG K H a t pre rest r) : Soft H a := by
  obtain ⟨h1, h2, dx, h3⟩ := h
  exact soft_ins h3
theorem SG.imm {K : PySem.W.Frag} {H H' : Hp} {a : Addr} {t : Str} {pre rest : List Nat} {r : Int} (h : SG K H a t pre rest r) (f : Fr [a] H H') : Imm H H' := f.imm fun b m => by rw [List.mem_singleton.mp m]; exact h.soft
theorem cut_one {t : Str} {pre rest : List Nat} {c : Nat} (h : tl t = pre ++ c :: rest) : cutS t (some (pre.length : Int)) (some ((pre.length : Int) + 1)) = ⟨#[c]⟩ := by
  refine str_eq ?_
  have hl : t.length = pre.length + (rest.length + 1) := by rw [len_tl, h, List.length_append, List.length_cons]
  have e0 : HT.sIx t.length 0 (some (pre.length : Int)) = pre.length := by
    show (if (pre.length : Int) < 0 then ((pre.length : Int) + (t.length : Int)).toNat else min (pre.length : Int).toNat t.length) = _
    rw [if_neg (by omega)]
    omega
  have e1 : HT.sIx t.length t.length (some ((pre.length : Int) + 1)) = pre.length + 1 := by
    show (if (pre.length : Int) + 1 < 0 then ((pre.length : Int) + 1 + (t.length : Int)).toNat else min ((pre.length : Int) + 1).toNat t.length) = _
    rw [if_neg (by omega)]
    omega
  show (t.cps.toList.drop (HT.sIx t.length 0 (some (pre.length : Int)))).take (HT.sIx t.length t.length (some ((pre.length : Int) + 1)) - HT.sIx t.length 0 (some (pre.length : Int))) = [c]
  rw [e0, e1, show t.cps.toList = pre ++ c :: rest from h, List.drop_left, show pre.length + 1 - pre.length = 1 by omega]
  rfl
theorem cut_end {t : Str} {pre : List Nat} (h : tl t = pre ++ []) : cutS t (some (pre.length : Int)) (some ((pre.length : Int) + 1)) = "" := by
  refine str_eq ?_
  have e0 : tl ("" : Str) = [] := by decide +kernel
  rw [e0]
  have hl : t.length = pre.length := by rw [len_tl, h, List.append_nil]
  show (t.cps.toList.drop (HT.sIx t.length 0 (some (pre.length : Int)))).take _ = []
  have e0 : HT.sIx t.length 0 (some (pre.length : Int)) = pre.length := by
    show (if (pre.length : Int) < 0 then ((pre.length : Int) + (t.length : Int)).toNat else min (pre.length : Int).toNat t.length) = _
    rw [if_neg (by omega)]
    omega
  rw [e0, show t.cps.toList = pre ++ [] from h, List.drop_left]
  simp
theorem cut_mid {t : Str} {pre w rest : List Nat} (h : tl t = pre ++ (w ++ rest)) : tl (cutS t (some (pre.length : Int)) (some ((pre.length + w.length : Nat) : Int))) = w := by
  have hl : t.length = pre.length + (w.length + rest.length) := by rw [len_tl, h, List.length_append, List.length_append]
  have e0 : HT.sIx t.length 0 (some (pre.length : Int)) = pre.length := by
    show (if (pre.length : Int) < 0 then ((pre.length : Int) + (t.length : Int)).toNat else min (pre.length : Int).toNat t.length) = _
    rw [if_neg (by omega)]
    omega
  have e1 : HT.sIx t.length t.length (some ((pre.length + w.length : Nat) : Int)) = pre.length + w.length := by
    show (if ((pre.length + w.length : Nat) : Int) < 0 then (((pre.length + w.length : Nat) : Int) + (t.length : Int)).toNat else min ((pre.length + w.length : Nat) : Int).toNat t.length) = _
    rw [if_neg (by omega)]
    omega
  show (t.cps.toList.drop (HT.sIx t.length 0 (some (pre.length : Int)))).take (HT.sIx t.length t.length (some ((pre.length + w.length : Nat) : Int)) - HT.sIx t.length 0 (some (pre.length : Int))) = w
  rw [e0, e1, show t.cps.toList = pre ++ (w ++ rest) from h, List.drop_left, show pre.length + w.length - pre.length = w.length by omega, List.take_left]
def stops : List Nat := [44, 58, 93, 125]
theorem tl_stops : tl (",:]}" : Str) = stops := by decide +kernel
/-- a text that ends here -/
def Stop (post : List Nat) : Prop := post = [] ∨ ∃ c r, post = c :: r ∧ c ∈ stops
def spTake (K : PySem.W.Frag) : Sp := fun vs H Q _ => ∃ (a : Addr) (c : Nat) (x t : Str) (pre rest : List Nat) (r : Int), vs = [.ref a, .str x] ∧ x = ⟨#[c]⟩ ∧ SG K H a t pre rest r ∧
  (∀ rest', rest = c :: rest' → ∀ H', Fr [a] H H' → SG K H' a t (pre ++ [c]) rest' r → Q (.bl true) H') ∧ ((∀ rest', rest ≠ c :: rest') → Q (.bl false) H)
def spPiece (K : PySem.W.Frag) : Sp := fun vs H Q _ => ∃ (a : Addr) (t : Str) (pre w post : List Nat) (r : Int), vs = [.ref a] ∧ SG K H a t pre (w ++ post) r ∧ (∀ c ∈ w, c ∉ stops) ∧ Stop post ∧
  ∀ H' x, tl x = w → Fr [a] H H' → SG K H' a t (pre ++ w) post r → Q (.str x) H'
def spNextWord (K : PySem.W.Frag) : Sp := fun vs H Q _ => ∃ (a : Addr) (t x : Str) (pre post : List Nat) (r : Int), vs = [.ref a] ∧ SG K H a t pre (tl x ++ post) r ∧ IsWord x ∧ Stop post ∧
  ∀ H', Fr [a] H H' → SG K H' a t (pre ++ tl x) post r → Q (.str x) H'
def spMore (K : PySem.W.Frag) : Sp := fun vs H Q _ => ∃ (a : Addr) (c d : Nat) (x t : Str) (pre rest : List Nat) (r : Int), vs = [.ref a, .str x] ∧ x = ⟨#[d]⟩ ∧ d ≠ 44 ∧ SG K H a t pre (c :: rest) r ∧ (c = 44 ∨ c = d) ∧
  ∀ H', Fr [a] H H' → SG K H' a t (pre ++ [c]) rest r → Q (.bl (decide (c = 44))) H'
section
variable {P : Program} {w : World} {K : PySem.W.Frag} {mg : Str → Option Value} {base : Heap}
theorem sc_Signs_take : FnScope ["self", "sign"] ["self", "sign"] (defScope s_Signs_take) := C8.fnScope_by (by decide +kernel)
theorem ok_take (T : TX K mg) : C8.Met P w K mg base 1 (He.ga K "Signs") "take" (spTake K) [] := by
  refine met_of T.f_Signs_take T.l_Signs T.t_Signs_take sc_Signs_take (fun _ _ _ _ _ _ us hl => match us, hl with | [_, _], _ => rfl) (fun vs H Q E h => ?_) (fun cdv A outer s H vs Q E hr h => ?_)
  · obtain ⟨a, c, x, t, pre, rest, r, rfl, _⟩ := h
    rfl
  obtain ⟨a, c, x, t, pre, rest, r, rfl, hx, ⟨ht, hl, dx, ha⟩, k1, k2⟩ := h
  refine ⟨_, (pss_cons (ps_if (pt_cmpR op_ne (pe_slice sl_str (pe_fld (pv 0) rfl) (po_some (pe_fld (pv 0) rfl)) (po_some (pe_op op_add (pe_fld (pv 0) rfl) pe_int))) (pv 1) (nomark _)) (pss_one (ps_ret pe_bl)) pss_nil)
      (pss_cons (ps_fld (pv 0) (pe_op op_add (pe_fld (pv 0) rfl) pe_int) rfl)
      (pss_one (ps_ret pe_bl)))), ?_⟩
  refine ⟨_, rfl, a, _, dx, _, _, rfl, ha, T.l_Signs, T.n_Signs_text, sg_text _ _ _, _, rfl, a, _, dx, _, _, rfl, ha, T.l_Signs, T.n_Signs_at, sg_at _ _ _, _, rfl, _, rfl, a, _, dx, _, _, rfl, ha, T.l_Signs, T.n_Signs_at, sg_at _ _ _, _, _, rfl, rfl, _, rfl, t, rfl, Nat.le_trans hl (by decide), _, rfl, rfl, _, rfl, ?_⟩
  cases rest with
  | nil =>
    refine ifNS (fun _ => k2 fun rest' z => by cases z) fun q => ?_
    rw [cut_end ht, hx] at q
    have z := congrArg tl q
    rw [show tl ("" : Str) = [] by decide +kernel] at z
    cases z
  | cons c' rest' =>
    refine ifNS (fun q => k2 fun r' z => q ?_) fun q => ?_
    · injection z with z1 z2
      rw [cut_one ht, hx, z1]
    · rw [cut_one ht, hx] at q
      have z := congrArg tl q
      have z1 : c' = c := by injection z
      subst z1
      refine ⟨_, rfl, a, _, dx, _, _, rfl, ha, T.l_Signs, T.n_Signs_at, sg_at _ _ _, _, _, rfl, rfl, _, rfl, a, _, dx, _, rfl, ha, T.l_Signs, T.n_Signs_at, (by show 3 < 1000; decide), ?_⟩
      refine k1 rest' rfl _ (Fr.put (by simp)) ⟨by rw [ht, List.append_assoc]; rfl, hl, dx, ?_⟩
      rw [upd_same, List.length_append]
      show some (HO.ins (He.ga K "Signs") dx (putF "at" (.int ((pre.length : Int) + 1)) (sgF t (pre.length : Int) r))) = _
      rw [sg_put_at]
      rfl
theorem sc_Signs_piece : FnScope ["self", "begin"] ["self"] (defScope s_Signs_piece) := C8.fnScope_by (by decide +kernel)
theorem ok_piece (T : TX K mg) : C8.Met P w K mg base 1 (He.ga K "Signs") "piece" (spPiece K) [] := by
  refine met_of T.f_Signs_piece T.l_Signs T.t_Signs_piece sc_Signs_piece (fun _ _ _ _ _ _ us hl => match us, hl with | [_], _ => rfl) (fun vs H Q E h => ?_) (fun cdv A outer s H vs Q E hr h => ?_)
  · obtain ⟨a, t, pre, ws, post, r, rfl, _⟩ := h
    rfl
  obtain ⟨a, t, pre, ws, post, r, rfl, ⟨ht, hl, dx, ha⟩, hw, hs, k⟩ := h
  refine ⟨_, (pss_cons (ps_set (i := 1) sc_Signs_piece.nd rfl (by first | exact Or.inl rfl | exact Or.inr rfl) (pe_fld (pv 0) rfl))
      (pss_cons (ps_while PassesOwn.never (PW.pt (pw_and (pt_cmpR op_lt (pe_fld (pv 0) rfl) (pe_callB call_len_str (by rfl) T.z_len (by decide +kernel) (pa_cons (pe_fld (pv 0) rfl) pa_nil)) (nomark _)) (pw_and1 (pt_cmpR op_notIn_sign (pe_ix ix_str (pe_fld (pv 0) rfl) (pe_fld (pv 0) rfl) (fun _ _ => rfl)) pe_str (by rfl)))))
        (pss_one (ps_fld (pv 0) (pe_op op_add (pe_fld (pv 0) rfl) pe_int) rfl)))
      (pss_one (ps_ret (pe_slice sl_str (pe_fld (pv 0) rfl) (po_some (pv 1)) (po_some (pe_fld (pv 0) rfl))))))), ?_⟩
  have hl2 : t.length ≤ sizeLine := Nat.le_trans hl (by decide)
  have lt : t.length = pre.length + (ws.length + post.length) := by rw [len_tl, ht, List.length_append, List.length_append]
  refine ⟨_, rfl, a, _, dx, _, _, rfl, ha, T.l_Signs, T.n_Signs_at, sg_at _ _ _, ?_⟩
  have fin : ∀ H1, Fr [a] H H1 → H1 a = some (.ins (He.ga K "Signs") dx (sgF t ((pre.length + ws.length : Nat) : Int) r)) → Q (.str (cutS t (some (pre.length : Int)) (some ((pre.length + ws.length : Nat) : Int)))) H1 := fun H1 f1 h1 =>
    k H1 _ (cut_mid ht) f1 ⟨by rw [ht, List.append_assoc], hl, dx, by rw [List.length_append]; exact h1⟩
  refine ⟨fun m σ H1 => ∃ i, m = ws.length - i ∧ i ≤ ws.length ∧ σ = [some (V.ref a), some (V.int (pre.length : Int))] ∧ Fr [a] H H1 ∧ H1 a = some (.ins (He.ga K "Signs") dx (sgF t ((pre.length + i : Nat) : Int) r)), ⟨_, 0, rfl, Nat.zero_le _, rfl, Fr.refl _ _, ha⟩, ?_⟩
  rintro m σ H1 ⟨i, rfl, hi, rfl, f1, h1⟩
  refine ⟨_, rfl, a, _, dx, _, _, rfl, h1, T.l_Signs, T.n_Signs_at, sg_at _ _ _, _, rfl, a, _, dx, _, _, rfl, h1, T.l_Signs, T.n_Signs_text, sg_text _ _ _, t, rfl, hl2, _, _, rfl, rfl, _, rfl, ?_⟩
  by_cases hlt : i < ws.length
  · obtain ⟨c, hc⟩ : ∃ c, ws[i]? = some c := ⟨_, List.getElem?_eq_getElem hlt⟩
    have hat : atI t.cps.toList ((pre.length + i : Nat) : Int) = some c := by
      refine atI_nat ?_
      rw [show t.cps.toList = pre ++ (ws ++ post) from ht, List.getElem?_append_right (by omega), show pre.length + i - pre.length = i by omega, List.getElem?_append_left hlt, hc]
    refine ifB (fun _ => ?_) fun q => absurd (by omega) q
    refine ⟨_, rfl, a, _, dx, _, _, rfl, h1, T.l_Signs, T.n_Signs_text, sg_text _ _ _, _, rfl, a, _, dx, _, _, rfl, h1, T.l_Signs, T.n_Signs_at, sg_at _ _ _, t, _, c, rfl, rfl, hl2, hat, c, _, rfl, rfl, _, rfl, ifNB (fun _ => ?_) fun q => ?_⟩
    · refine ⟨fun σ' H' => σ' = [some (V.ref a), some (V.int (pre.length : Int))] ∧ Fr [a] H H' ∧ H' a = some (.ins (He.ga K "Signs") dx (sgF t ((pre.length + (i + 1) : Nat) : Int) r)), fun σ' H' ⟨e, f, g⟩ => ⟨ws.length - (i + 1), by omega, i + 1, rfl, hlt, e, f, g⟩, ?_⟩
      refine ⟨_, rfl, a, _, dx, _, _, rfl, h1, T.l_Signs, T.n_Signs_at, sg_at _ _ _, _, _, rfl, rfl, _, rfl, a, _, dx, _, rfl, h1, T.l_Signs, T.n_Signs_at, (by show 3 < 1000; decide), rfl, f1.trans (Fr.put (by simp)), ?_⟩
      rw [upd_same]
      show some (HO.ins (He.ga K "Signs") dx (putF "at" (.int (((pre.length + i : Nat) : Int) + 1)) (sgF t ((pre.length + i : Nat) : Int) r))) = _
      rw [sg_put_at]
      rfl
    · have e : (",:]}" : Str).cps.toList = stops := tl_stops
      rw [e] at q
      exact absurd q (hw c (List.mem_of_getElem? hc))
  · have e : i = ws.length := by omega
    subst e
    rcases hs with hs | ⟨c, rr, hs, hc⟩
    · subst hs
      refine ifB (fun q => absurd q (by rw [lt]; simp)) fun _ => iteF ?_
      exact ⟨_, rfl, a, _, dx, _, _, rfl, h1, T.l_Signs, T.n_Signs_text, sg_text _ _ _, _, rfl, _, rfl, _, rfl, a, _, dx, _, _, rfl, h1, T.l_Signs, T.n_Signs_at, sg_at _ _ _, _, rfl, t, rfl, hl2, fin H1 f1 h1⟩
    · have hat : atI t.cps.toList ((pre.length + ws.length : Nat) : Int) = some c := by
        refine atI_nat ?_
        rw [show t.cps.toList = pre ++ (ws ++ post) from ht, List.getElem?_append_right (by omega), show pre.length + ws.length - pre.length = ws.length by omega, List.getElem?_append_right (by omega), hs]
        simp
      have hpl : post.length = rr.length + 1 := by rw [hs]; rfl
      refine ifB (fun _ => ?_) fun q => absurd (by omega) q
      refine ⟨_, rfl, a, _, dx, _, _, rfl, h1, T.l_Signs, T.n_Signs_text, sg_text _ _ _, _, rfl, a, _, dx, _, _, rfl, h1, T.l_Signs, T.n_Signs_at, sg_at _ _ _, t, _, c, rfl, rfl, hl2, hat, c, _, rfl, rfl, _, rfl, ifNB (fun q => absurd (by rw [show (",:]}" : Str).cps.toList = stops from tl_stops]; exact hc) q) fun _ => ?_⟩
      exact ⟨_, rfl, a, _, dx, _, _, rfl, h1, T.l_Signs, T.n_Signs_text, sg_text _ _ _, _, rfl, _, rfl, _, rfl, a, _, dx, _, _, rfl, h1, T.l_Signs, T.n_Signs_at, sg_at _ _ _, _, rfl, t, rfl, hl2, fin H1 f1 h1⟩
theorem sc_Signs_next_word : FnScope ["self", "word"] ["self"] (defScope s_Signs_next_word) := C8.fnScope_by (by decide +kernel)
theorem ok_next_word (T : TX K mg) : C8.Met P w K mg base 3 (He.ga K "Signs") "next_word" (spNextWord K) [] := by
  have m_piece : C8.Met P w K mg base 1 (He.ga K "Signs") "piece" (spPiece K) [] := ok_piece T
  have c_is_word : C8.Cal P w K mg base 2 "is_word" spIsWord [] := ok_is_word T
  refine met_of T.f_Signs_next_word T.l_Signs T.t_Signs_next_word sc_Signs_next_word (fun _ _ _ _ _ _ us hl => match us, hl with | [_], _ => rfl) (fun vs H Q E h => ?_) (fun cdv A outer s H vs Q E hr h => ?_)
  · obtain ⟨a, t, x, pre, post, r, rfl, _⟩ := h
    rfl
  obtain ⟨a, t, x, pre, post, r, rfl, hsg, hx, hs, k⟩ := h
  refine ⟨_, (pss_cons (ps_set (i := 1) sc_Signs_next_word.nd rfl (by first | exact Or.inl rfl | exact Or.inr rfl) (C8.pe_mt0 m_piece hr (by omega) (pv 0)))
      (pss_cons (ps_if (pt_not (pt_val (C8.pe_c c_is_word hr (by omega) (by rfl) (pa_cons (pv 1) pa_nil)))) (pss_one ps_never) pss_nil)
      (pss_one (ps_ret (pv 1))))), ?_⟩
  have hsg2 := hsg
  obtain ⟨ht, hl, dx, ha⟩ := hsg2
  have nw : ∀ c ∈ tl x, c ∉ stops := fun c hc => by
    have := hx.2.2 c hc
    have : ∀ c ∈ letters, c ∉ stops := by decide
    exact this c (hx.2.2 c hc)
  refine ⟨_, rfl, a, dx, _, rfl, ha, (sg_meths _ _ _).2.1, a, t, pre, tl x, post, r, rfl, hsg, nw, hs, fun H' y hy f' h' => ?_⟩
  have e : y = x := str_eq hy
  subst e
  refine ⟨_, rfl, y, rfl, sl_le (by have := hx.2.1; omega), fun b hb => ⟨_, rfl, ?_⟩⟩
  rw [hb.mpr hx]
  exact iteF ⟨_, rfl, k H' f' h'⟩
theorem sc_Signs_more : FnScope ["self", "closing"] ["self", "closing"] (defScope s_Signs_more) := C8.fnScope_by (by decide +kernel)
theorem ok_more (T : TX K mg) : C8.Met P w K mg base 2 (He.ga K "Signs") "more" (spMore K) [] := by
  have m_take : C8.Met P w K mg base 1 (He.ga K "Signs") "take" (spTake K) [] := ok_take T
  refine met_of T.f_Signs_more T.l_Signs T.t_Signs_more sc_Signs_more (fun _ _ _ _ _ _ us hl => match us, hl with | [_, _], _ => rfl) (fun vs H Q E h => ?_) (fun cdv A outer s H vs Q E hr h => ?_)
  · obtain ⟨a, c, d, x, t, pre, rest, r, rfl, _⟩ := h
    rfl
  obtain ⟨a, c, d, x, t, pre, rest, r, rfl, hx, hd, hsg, hc, k⟩ := h
  refine ⟨_, (pss_cons (ps_if (pt_val (C8.pe_mt m_take hr (by omega) (pv 0) (pa_cons pe_str pa_nil))) (pss_one (ps_ret pe_bl)) pss_nil)
      (pss_cons (ps_if (pt_not (pt_val (C8.pe_mt m_take hr (by omega) (pv 0) (pa_cons (pv 1) pa_nil)))) (pss_one ps_never) pss_nil)
      (pss_one (ps_ret pe_bl)))), ?_⟩
  have hsg2 := hsg
  obtain ⟨ht, hl, dx, ha⟩ := hsg2
  have comma : ("," : Str) = ⟨#[44]⟩ := str_eq (by decide +kernel)
  refine ⟨_, rfl, a, dx, _, rfl, ha, (sg_meths _ _ _).1, a, 44, _, t, pre, c :: rest, r, rfl, comma, hsg, fun rest' e H' f' h' => ?_, fun n => ?_⟩
  · injection e with e1 e2
    subst e1 e2
    refine ⟨_, rfl, iteT ?_⟩
    exact k H' f' h'
  · have hcd : c = d := hc.resolve_left fun z => n rest (by rw [z])
    subst hcd
    refine ⟨_, rfl, iteF ?_⟩
    refine ⟨_, rfl, a, dx, _, rfl, ha, (sg_meths _ _ _).1, _, rfl, a, c, _, t, pre, c :: rest, r, rfl, hx, hsg, fun rest' e H' f' h' => ?_, fun n => absurd rfl (n rest)⟩
    injection e with e1 e2
    subst e2
    refine ⟨_, rfl, iteF ?_⟩
    have z := k H' f' h'
    rw [decide_eq_false hd] at z
    exact z
end
end FK
/-! FKP4 -/
set_option maxHeartbeats 400000
namespace FK
open PySem PySem.Spec PyProof.Rows L2
open TL (tl)
/-! ### the text of a value, part by part -/
def dT (d : D) : List Nat := tl (showD d)
def tailT (c : Nat) : List (List Nat) → List Nat
  | [] => [c]
  | p :: r => 44 :: (p ++ tailT c r)
def bodyT (c : Nat) : List (List Nat) → List Nat
  | [] => [c]
  | p :: r => p ++ tailT c r
theorem body_join (c : Nat) : ∀ ps : List (List Nat), TL.joinL [44] ps ++ [c] = bodyT c ps
  | [] => rfl
  | [p] => rfl
  | p :: q :: r => by
    have ih := body_join c (q :: r)
    show (p ++ ([44] ++ TL.joinL [44] (q :: r))) ++ [c] = p ++ tailT c (q :: r)
    rw [List.append_assoc, List.append_assoc, ih]
    rfl
theorem tl_lits : tl ("," : Str) = [44] ∧ tl ("[" : Str) = [91] ∧ tl ("]" : Str) = [93] ∧ tl ("{" : Str) = [123] ∧ tl ("}" : Str) = [125] ∧ tl (":" : Str) = [58] ∧ tl ("'" : Str) = [39] := by decide +kernel
theorem dT_tup (l : List D) : dT (.tup l) = 91 :: bodyT 93 (l.map dT) := by
  obtain ⟨t1, t2, t3, t4, t5, t6, t7⟩ := tl_lits
  unfold dT
  rw [showD_tup, tl_app, tl_app, tl_join, t1, t2, t3, showL_eq, List.map_map, List.append_assoc, body_join]
  rfl
def kT (p : Str × D) : List Nat := tl p.1 ++ 58 :: dT p.2
theorem dT_dct {l : List (Str × D)} (n : l.Pairwise fun p q => ltS p.1 q.1 = true) : dT (.dct l) = 123 :: bodyT 125 (l.map kT) := by
  obtain ⟨t1, t2, t3, t4, t5, t6, t7⟩ := tl_lits
  unfold dT
  rw [show_dct_srt n, tl_app, tl_app, tl_join, t1, t4, t5, List.map_map, List.append_assoc, body_join]
  have e : l.map (tl ∘ fun p => p.1 ++ (":" : Str) ++ showD p.2) = l.map kT := List.map_congr_left fun p _ => by
    show tl (p.1 ++ (":" : Str) ++ showD p.2) = _
    rw [tl_app, tl_app, t6, List.append_assoc]
    rfl
  rw [e]
  rfl
theorem dT_str (x : Str) : dT (.str x) = 39 :: tl x := by
  obtain ⟨t1, t2, t3, t4, t5, t6, t7⟩ := tl_lits
  unfold dT
  rw [showD_str, tl_app, t7]
  rfl
theorem dT_int (i : Int) : dT (.int i) = tl (intS i) := by
  unfold dT
  rw [showD_int]
  rfl
theorem int_head (i : Int) : ∃ c r, tl (intS i) = c :: r ∧ (c = 45 ∨ (48 ≤ c ∧ c ≤ 57)) := by
  cases i with
  | ofNat n =>
    have e : tl (intS (Int.ofNat n)) = TL.numL n := tl_nat n
    cases hx : TL.numL n with
    | nil => exact absurd hx (TL.numL_ne n)
    | cons c r => exact ⟨c, r, by rw [e, hx], .inr (TL.numL_digits n c (by rw [hx]; exact List.mem_cons_self))⟩
  | negSucc n => exact ⟨45, _, tl_neg n, .inl rfl⟩
theorem int_free (i : Int) : ∀ c ∈ tl (intS i), c ∉ stops := by
  have g : ∀ n, ∀ c ∈ TL.numL n, c ∉ stops := fun n c hc => by
    have := TL.numL_digits n c hc
    intro z
    simp only [stops, List.mem_cons, List.not_mem_nil, or_false] at z
    omega
  cases i with
  | ofNat n =>
    have e : tl (intS (Int.ofNat n)) = TL.numL n := tl_nat n
    rw [e]
    exact g n
  | negSucc n =>
    have e : tl (intS (Int.negSucc n)) = 45 :: TL.numL (n + 1) := tl_neg n
    rw [e]
    intro c hc
    rcases List.mem_cons.mp hc with z | hc
    · rw [z]; decide
    · exact g _ c hc
theorem dT_head {d : D} (s : Srt d) : ∃ c r, dT d = c :: r ∧ c ≠ 93 ∧ c ≠ 125 := by
  cases s with
  | int i =>
    obtain ⟨c, r, e, h⟩ := int_head i
    exact ⟨c, r, by rw [dT_int, e], by omega, by omega⟩
  | str x => exact ⟨39, _, dT_str x, by decide, by decide⟩
  | tup h => exact ⟨91, _, dT_tup _, by decide, by decide⟩
  | dct n h => exact ⟨123, _, dT_dct n, by decide, by decide⟩
/-! ### what is new -/
def newH (H H' : Hp) : Hp := fun b => match H b with
  | none => H' b
  | some _ => none
theorem newH_at {H H' : Hp} {b : Addr} (h : H b = none) : newH H H' b = H' b := by unfold newH; rw [h]
theorem newH_some {H H' : Hp} {b : Addr} {o : HO} (h : newH H H' b = some o) : H b = none ∧ H' b = some o := by
  unfold newH at h
  cases z : H b with
  | none => rw [z] at h; exact ⟨rfl, h⟩
  | some u => rw [z] at h; cases h
theorem newH_le {H H1 H' : Hp} (le : ∀ b, H1 b = none → H b = none) : Imm (newH H1 H') (newH H H') :=
  ⟨fun b xs e => by obtain ⟨e1, e2⟩ := newH_some e; rw [newH_at (le b e1)]; exact e2, fun b xs e => by obtain ⟨e1, e2⟩ := newH_some e; rw [newH_at (le b e1)]; exact e2⟩
theorem newH_imm {H H1 H2 : Hp} (i : Imm H1 H2) : Imm (newH H H1) (newH H H2) :=
  ⟨fun b xs e => by obtain ⟨e1, e2⟩ := newH_some e; rw [newH_at e1]; exact i.1 _ _ e2, fun b xs e => by obtain ⟨e1, e2⟩ := newH_some e; rw [newH_at e1]; exact i.2 _ _ e2⟩
theorem newH_to {H H' : Hp} : Imm (newH H H') H' := ⟨fun b xs e => (newH_some e).2, fun b xs e => (newH_some e).2⟩
theorem newH_upd {H H' : Hp} {p : Addr} {o : HO} (h : H p ≠ none) : newH H (upd H' p o) = newH H H' := by
  funext b
  unfold newH
  cases z : H b with
  | some u => rfl
  | none => exact upd_ne fun e => h (by rw [← e]; exact z)
theorem Fr.le {S : List Addr} {H H' : Hp} (f : Fr S H H') (h : ∀ b ∈ S, H' b ≠ none) : ∀ b, H' b = none → H b = none := fun b hb => by
  cases z : H b with
  | none => rfl
  | some o =>
    by_cases m : b ∈ S
    · exact absurd hb (h b m)
    · rw [f b o z m] at hb; cases hb
theorem stop_tail {c : Nat} (hc : c ∈ stops) : ∀ (ps : List (List Nat)) (post : List Nat), Stop (tailT c ps ++ post)
  | [], post => .inr ⟨c, post, rfl, hc⟩
  | p :: r, post => .inr ⟨44, _, rfl, by decide⟩
theorem SG.ne {K : PySem.W.Frag} {H : Hp} {a : Addr} {t : Str} {pre rest : List Nat} {r : Int} (h : SG K H a t pre rest r) : H a ≠ none := by
  obtain ⟨h1, h2, dx, h3⟩ := h
  rw [h3]
  exact fun z => by cases z
theorem SG.le {K : PySem.W.Frag} {H H' : Hp} {a : Addr} {t : Str} {pre rest : List Nat} {r : Int} (h : SG K H' a t pre rest r) (f : Fr [a] H H') : ∀ b, H' b = none → H b = none :=
  f.le fun b m => by rw [List.mem_singleton.mp m]; exact h.ne
def spVal (K : PySem.W.Frag) : Nat → Sp
  | 0 => fun _ _ _ _ => False
  | n + 1 => fun vs H Q _ => ∃ (a : Addr) (d : D) (t : Str) (pre post : List Nat) (r : Int), vs = [.ref a] ∧ n < 100 ∧ SG K H a t pre (dT d ++ post) r ∧ WfD d ∧ Srt d ∧ Stop post ∧ partsD d ≤ n + 1 ∧ (partsD d : Int) ≤ r ∧
    ∀ H' v pre', Fr [a] H H' → SG K H' a t pre' post (r - partsD d) → Rep (newH H H') d v → Q v H'
def spRow (K : PySem.W.Frag) (n : Nat) : Sp := fun vs H Q _ => ∃ (a : Addr) (l : List D) (t : Str) (pre post : List Nat) (r : Int), vs = [.ref a] ∧ n < 100 ∧ SG K H a t pre (bodyT 93 (l.map dT) ++ post) r ∧ (∀ d ∈ l, WfD d ∧ Srt d) ∧ partsL l ≤ n ∧ (partsL l : Int) ≤ r ∧
  ∀ H' v pre', Fr [a] H H' → SG K H' a t pre' post (r - partsL l) → Rep (newH H H') (.tup l) v → Q v H'
def spRec (K : PySem.W.Frag) (n : Nat) : Sp := fun vs H Q _ => ∃ (a : Addr) (l : List (Str × D)) (t : Str) (pre post : List Nat) (r : Int), vs = [.ref a] ∧ n < 100 ∧ SG K H a t pre (bodyT 125 (l.map kT) ++ post) r ∧ (∀ p ∈ l, IsWord p.1 ∧ WfD p.2 ∧ Srt p.2) ∧ (l.Pairwise fun p q => ltS p.1 q.1 = true) ∧ partsK l ≤ n ∧ (partsK l : Int) ≤ r ∧
  ∀ H' v pre', Fr [a] H H' → SG K H' a t pre' post (r - partsK l) → Rep (newH H H') (.dct l) v → Q v H'
def recRest (post : List Nat) : List (Str × D) → List Nat
  | [] => post
  | p :: ps => tl p.1 ++ 58 :: (dT p.2 ++ (tailT 125 (ps.map kT) ++ post))
theorem putD_new {l : List (Str × D)} {w : Str} {d : D} (h : ∀ p ∈ l, p.1 ≠ w) : putD l w d = l ++ [(w, d)] := by
  unfold putD
  rw [if_neg]
  intro z
  obtain ⟨p, hp, e⟩ := List.any_eq_true.mp z
  exact h p hp (of_decide_eq_true e)
def rowRest (post : List Nat) : List D → List Nat
  | [] => post
  | d :: ds => dT d ++ (tailT 93 (ds.map dT) ++ post)
section
variable {P : Program} {w : World} {K : PySem.W.Frag} {mg : Str → Option Value} {base : Heap}
theorem sc_row_at : FnScope ["signs", "row", "going"] ["signs"] (defScope s_row_at) := C8.fnScope_by (by decide +kernel)
theorem ok_row_at (T : TX K mg) {n k : Nat} (hk : 2 ≤ k) (c_value_at : C8.Cal P w K mg base k "value_at" (spVal K n) []) : C8.Cal P w K mg base (k + 1) "row_at" (spRow K n) [] := by
  have m_take : C8.Met P w K mg base 1 (He.ga K "Signs") "take" (spTake K) [] := ok_take T
  have m_more : C8.Met P w K mg base 2 (He.ga K "Signs") "more" (spMore K) [] := ok_more T
  refine cal_of T.f_row_at T.g_row_at sc_row_at (fun _ _ _ _ _ _ us hl => match us, hl with | [_], _ => rfl) (fun vs H Q E h => ?_) (fun cdv A outer s H vs Q E hr h => ?_)
  · obtain ⟨a, l, t, pre, post, r, rfl, _⟩ := h
    rfl
  obtain ⟨a, l, t, pre, post, r, rfl, hn, hsg, hl, hp, hr2, kk⟩ := h
  refine ⟨_, (pss_cons (ps_set (i := 1) sc_row_at.nd rfl (by first | exact Or.inl rfl | exact Or.inr rfl) (pe_lst pa_nil))
      (C8.pss_cut (ps_set (i := 2) sc_row_at.nd rfl (by first | exact Or.inl rfl | exact Or.inr rfl) (pe_not (C8.pe_mt m_take hr (by omega) (pv 0) (pa_cons pe_str pa_nil))))
      (pss_cons (ps_while PassesOwn.never (pt_val (pv 2))
        (pss_cons (ps_expr (pe_bm PySem.F.plainAttrs_list PySem.F.slot_list_append PySem.F.type_list_append mt_append (pv 1) (pa_cons (C8.pe_c c_value_at hr (by omega) (by rfl) (pa_cons (pv 0) pa_nil)) pa_nil)))
      (pss_one (ps_set (i := 2) sc_row_at.nd rfl (by first | exact Or.inl rfl | exact Or.inr rfl) (C8.pe_mt m_more hr (by omega) (pv 0) (pa_cons pe_str pa_nil))))))
      (pss_one (ps_ret (pe_callTy call_tuple_of (by rfl) T.z_tuple (by decide +kernel) (pa_cons (pv 1) pa_nil))))))), ?_⟩
  obtain ⟨t1, t2, t3, t4, t5, t6, t7⟩ := tl_lits
  have rb : ("]" : Str) = ⟨#[93]⟩ := str_eq t3
  refine ⟨sl0, fun p hp0 => ?_⟩
  have hsg1 : SG K (upd H p (.lst [])) a t pre (bodyT 93 (l.map dT) ++ post) r := hsg.keep (S := []) (Fr.new hp0) (by simp)
  have npa : p ≠ a := fun z => hsg.ne (by rw [← z]; exact hp0)
  have fp : Fr [a] H (upd H p (.lst [])) := Fr.new hp0
  have hp1 : upd H p (.lst []) p = some (.lst []) := upd_same
  have lenl := partsL_len l
  obtain ⟨ht1, hl1, dx1, ha1⟩ := id hsg1
  refine ⟨fun σ H1 => ∃ pre', σ = [some (V.ref a), some (V.ref p), some (V.bl (!l.isEmpty))] ∧ SG K H1 a t pre' (rowRest post l) r ∧ H1 p = some (.lst []) ∧ Fr [a] H H1, ?_, ?tail⟩
  · refine ⟨_, rfl, a, dx1, _, rfl, ha1, (sg_meths _ _ _).1, a, 93, _, t, pre, _, r, rfl, rb, hsg1, fun rest' e H' f' h' => ?_, fun ne => ?_⟩
    · cases l with
      | nil =>
        injection e with e1 e2
        subst e2
        exact ⟨_, rfl, _, rfl, h', f'.at hp1 (by simp; exact npa), fp.trans f'⟩
      | cons d ds =>
        obtain ⟨c, r', e1, e2, e3⟩ := dT_head (hl d List.mem_cons_self).2
        rw [List.map_cons, bodyT, e1] at e
        injection e with e4 e5
        exact absurd e4 e2
    · cases l with
      | nil => exact absurd rfl (ne post)
      | cons d ds =>
        refine ⟨_, rfl, pre, rfl, ?_, hp1, fp⟩
        rw [List.map_cons, bodyT, List.append_assoc] at hsg1
        exact hsg1
  case tail =>
  rintro σ H1 ⟨pre1, rfl, sg1, hpp, f1⟩
  refine ⟨fun m σ H1 => ∃ (dn rem : List D) (pre' : List Nat) (xs : List V), m = rem.length ∧ l = dn ++ rem ∧ σ = [some (V.ref a), some (V.ref p), some (V.bl (!rem.isEmpty))] ∧ SG K H1 a t pre' (rowRest post rem) (r - partsL dn) ∧ H1 p = some (.lst xs) ∧ RepL (newH H H1) dn xs ∧ Fr [a] H H1, ⟨_, [], l, pre1, [], rfl, rfl, rfl, by rw [partsL]; simpa using sg1, hpp, RepL.nil, f1⟩, ?_⟩
  rintro m σ H2 ⟨dn, rem, pre2, xs, rfl, el, rfl, sg2, hp2, rx, f2⟩
  cases rem with
  | nil =>
    refine ⟨_, rfl, _, rfl, iteF ?_⟩
    rw [List.append_nil] at el
    subst el
    refine ⟨_, rfl, p, _, rfl, .inl ⟨SqL.of hp2, fun q hq => ?_⟩⟩
    refine kk _ _ pre2 (f2.trans (Fr.new hq)) (sg2.keep (S := []) (Fr.new hq) (by simp)) ?_
    have hq0 : H q = none := sg2.le f2 q hq
    refine rep_tup.mpr ⟨q, xs, rfl, ?_, rx.mono (newH_imm (imm_upd (soft_none hq)))⟩
    rw [newH_at hq0]
    exact upd_same
  | cons d ds =>
    refine ⟨_, rfl, _, rfl, iteT ?_⟩
    have hd := hl d (by rw [el]; simp)
    have hpt : partsL l = partsL dn + (partsD d + partsL ds) := by rw [el, partsL_sum, partsL_sum, partsL_sum, List.map_append, List.sum_append, List.map_cons, List.sum_cons]
    have hdl : dn.length ≤ partsL dn := partsL_len dn
    refine ⟨fun σ' H' => ∃ (pre' : List Nat) (xs : List V), σ' = [some (V.ref a), some (V.ref p), some (V.bl (!ds.isEmpty))] ∧ SG K H' a t pre' (rowRest post ds) (r - partsL (dn ++ [d])) ∧ H' p = some (.lst xs) ∧ RepL (newH H H') (dn ++ [d]) xs ∧ Fr [a] H H', fun σ' H' ⟨pre', xs', e1, e2, e3, e4, e5⟩ => ⟨ds.length, by simp, dn ++ [d], ds, pre', xs', rfl, by rw [el]; simp, e1, e2, e3, e4, e5⟩, ?_⟩
    refine ⟨_, rfl, .inl ⟨rfl, _, SqL.of hp2⟩, _, rfl, ?_⟩
    obtain ⟨n', rfl⟩ : ∃ n', n = n' + 1 := ⟨n - 1, by have := partsD_pos d; omega⟩
    refine ⟨a, d, t, pre2, tailT 93 (ds.map dT) ++ post, r - partsL dn, rfl, by omega, sg2, hd.1, hd.2, stop_tail (by decide) _ _, by omega, by omega, fun H3 v pre3 f3 sg3 rv => ?_⟩
    have hp3 := f3.at hp2 (by simp; exact npa)
    refine ⟨p, _, _, rfl, rfl, hp3, sl_lt (by rw [rx.length]; omega), ?_⟩
    have sg4 : SG K (upd H3 p (.lst (xs ++ [v]))) a t pre3 (tailT 93 (ds.map dT) ++ post) (r - partsL dn - partsD d) := sg3.keep (S := [p]) (Fr.put (by simp)) (by simp; exact npa.symm)
    have i34 : Imm H3 (upd H3 p (.lst (xs ++ [v]))) := imm_upd (soft_lst hp3)
    have rx4 : RepL (newH H (upd H3 p (.lst (xs ++ [v])))) (dn ++ [d]) (xs ++ [v]) := by
      refine RepL.snoc (rx.mono ((newH_imm (sg2.imm f3)).trans (newH_imm i34))) (rv.mono ((newH_le (sg2.le f2)).trans (newH_imm i34)))
    have f4 : Fr [a] H (upd H3 p (.lst (xs ++ [v]))) := (f2.trans f3).put_new hp0
    have hp4 : upd H3 p (.lst (xs ++ [v])) p = some (.lst (xs ++ [v])) := upd_same
    generalize upd H3 p (.lst (xs ++ [v])) = H4 at *
    obtain ⟨c, rest, ec, er, hc, hb⟩ : ∃ c rest, tailT 93 (ds.map dT) ++ post = c :: rest ∧ rest = rowRest post ds ∧ (c = 44 ∨ c = 93) ∧ decide (c = 44) = !ds.isEmpty := by
      cases ds with
      | nil => exact ⟨93, post, rfl, rfl, .inr rfl, rfl⟩
      | cons e es => exact ⟨44, _, rfl, List.append_assoc _ _ _, .inl rfl, rfl⟩
    rw [ec] at sg4
    obtain ⟨ht4, hl4, dx4, ha4⟩ := id sg4
    refine ⟨_, rfl, a, dx4, _, rfl, ha4, (sg_meths _ _ _).2.2.2, a, c, 93, _, t, pre3, rest, _, rfl, rb, by decide, sg4, hc, fun H5 f5 sg5 => ?_⟩
    rw [hb]
    have ep : r - (partsL dn : Int) - (partsD d : Int) = r - (partsL (dn ++ [d]) : Int) := by
      have : partsL (dn ++ [d]) = partsL dn + partsD d := by rw [partsL_sum, partsL_sum, List.map_append, List.sum_append]; simp
      omega
    rw [ep, er] at sg5
    exact ⟨_, _, rfl, sg5, f5.at hp4 (by simp; exact npa), rx4.mono (newH_imm (sg4.imm f5)), f4.trans f5⟩
theorem sc_record_at : FnScope ["signs", "record", "last", "going", "word"] ["signs"] (defScope s_record_at) := C8.fnScope_by (by decide +kernel)
theorem ok_record_at (T : TX K mg) {n k : Nat} (hk : 3 ≤ k) (c_value_at : C8.Cal P w K mg base k "value_at" (spVal K n) []) : C8.Cal P w K mg base (k + 1) "record_at" (spRec K n) [] := by
  have m_take : C8.Met P w K mg base 1 (He.ga K "Signs") "take" (spTake K) [] := ok_take T
  have m_more : C8.Met P w K mg base 2 (He.ga K "Signs") "more" (spMore K) [] := ok_more T
  have m_next_word : C8.Met P w K mg base 3 (He.ga K "Signs") "next_word" (spNextWord K) [] := ok_next_word T
  refine cal_of T.f_record_at T.g_record_at sc_record_at (fun _ _ _ _ _ _ us hl => match us, hl with | [_], _ => rfl) (fun vs H Q E h => ?_) (fun cdv A outer s H vs Q E hr h => ?_)
  · obtain ⟨a, l, t, pre, post, r, rfl, _⟩ := h
    rfl
  obtain ⟨a, l, t, pre, post, r, rfl, hn, hsg, hl, hst, hp, hr2, kk⟩ := h
  have hu := hu_of hr
  refine ⟨_, (pss_cons (ps_set (i := 1) sc_record_at.nd rfl (by first | exact Or.inl rfl | exact Or.inr rfl) pe_dnewK)
      (pss_cons (ps_set (i := 2) sc_record_at.nd rfl (by first | exact Or.inl rfl | exact Or.inr rfl) pe_str)
      (C8.pss_cut (ps_set (i := 3) sc_record_at.nd rfl (by first | exact Or.inl rfl | exact Or.inr rfl) (pe_not (C8.pe_mt m_take hr (by omega) (pv 0) (pa_cons pe_str pa_nil))))
      (pss_cons (ps_while PassesOwn.never (pt_val (pv 3))
        (pss_cons (ps_set (i := 4) sc_record_at.nd rfl (by first | exact Or.inl rfl | exact Or.inr rfl) (C8.pe_mt0 m_next_word hr (by omega) (pv 0)))
      (pss_cons (ps_if (PW.pt (pw_or (pt_cmpR op_le_str (pv 4) (pv 2) (nomark _)) (pw_or1 (pt_not (pt_val (C8.pe_mt m_take hr (by omega) (pv 0) (pa_cons pe_str pa_nil))))))) (pss_one ps_never) pss_nil)
      (pss_cons (ps_dput hu (pv 1) (pv 4) (C8.pe_c c_value_at hr (by omega) (by rfl) (pa_cons (pv 0) pa_nil)) rfl)
      (pss_cons (ps_set (i := 2) sc_record_at.nd rfl (by first | exact Or.inl rfl | exact Or.inr rfl) (pv 4))
      (pss_one (ps_set (i := 3) sc_record_at.nd rfl (by first | exact Or.inl rfl | exact Or.inr rfl) (C8.pe_mt m_more hr (by omega) (pv 0) (pa_cons pe_str pa_nil)))))))))
      (pss_one (ps_ret (pv 1))))))), ?_⟩
  obtain ⟨t1, t2, t3, t4, t5, t6, t7⟩ := tl_lits
  have rb : ("}" : Str) = ⟨#[125]⟩ := str_eq t5
  have colon : (":" : Str) = ⟨#[58]⟩ := str_eq t6
  refine fun p hp0 => ?_
  have hsg1 : SG K (upd H p (.dK [])) a t pre (bodyT 125 (l.map kT) ++ post) r := hsg.keep (S := []) (Fr.new hp0) (by simp)
  have npa : p ≠ a := fun z => hsg.ne (by rw [← z]; exact hp0)
  have fp : Fr [a] H (upd H p (.dK [])) := Fr.new hp0
  have hp1 : upd H p (.dK []) p = some (.dK []) := upd_same
  have hpn : upd H p (.dK []) p ≠ none := by rw [hp1]; exact fun z => by cases z
  have leb : ∀ b, upd H p (.dK []) b = none → H b = none := fun b hb => by
    rw [upd_ne (fun z => hpn (by rw [z] at hb; exact hb))] at hb
    exact hb
  have le2 : ∀ {H1 : Hp} {o : HO}, (∀ b, H1 b = none → H b = none) → H1 p = some o → ∀ b, H1 b = none → upd H p (.dK []) b = none := fun h1 h2 b hb => by
    rw [upd_ne (fun z => by rw [z, h2] at hb; cases hb)]
    exact h1 b hb
  generalize hHb : upd H p (.dK []) = Hb at *
  obtain ⟨ht1, hl1, dx1, ha1⟩ := id hsg1
  refine ⟨fun σ H1 => ∃ pre', σ = [some (V.ref a), some (V.ref p), some (V.str ""), some (V.bl (!l.isEmpty)), none] ∧ SG K H1 a t pre' (recRest post l) r ∧ H1 p = some (.dK []) ∧ Fr [a] H H1, ?_, ?tail⟩
  · refine ⟨_, rfl, a, dx1, _, rfl, ha1, (sg_meths _ _ _).1, a, 125, _, t, pre, _, r, rfl, rb, hsg1, fun rest' e H' f' h' => ?_, fun ne => ?_⟩
    · cases l with
      | nil =>
        injection e with e1 e2
        subst e2
        exact ⟨_, rfl, _, rfl, h', f'.at hp1 (by simp; exact npa), fp.trans f'⟩
      | cons d ds =>
        exfalso
        have hw := (hl d List.mem_cons_self).1
        rw [List.map_cons, bodyT, kT] at e
        cases hx : tl d.1 with
        | nil =>
          have := hw.1
          rw [len_tl, hx] at this
          exact absurd this (by decide)
        | cons c rr =>
          rw [hx] at e
          injection e with e4 e5
          have := hw.2.2 c (by rw [hx]; exact List.mem_cons_self)
          rw [e4] at this
          exact absurd this (by decide)
    · cases l with
      | nil => exact absurd rfl (ne post)
      | cons d ds =>
        refine ⟨_, rfl, pre, rfl, ?_, hp1, fp⟩
        rw [List.map_cons, bodyT, kT] at hsg1
        simp only [List.append_assoc, List.cons_append] at hsg1
        exact hsg1
  case tail =>
  rintro σ H1 ⟨pre1, rfl, sg1, hpp, f1⟩
  have hlast0 : ∀ q ∈ l, ltS "" q.1 = true := fun q hq => by
    have hw := (hl q hq).1
    unfold ltS
    rw [show tl ("" : Str) = [] by decide +kernel]
    cases hx : tl q.1 with
    | nil =>
      have := hw.1
      rw [len_tl, hx] at this
      exact absurd this (by decide)
    | cons c rr => exact decide_eq_true (List.nil_lt_cons _ _)
  refine ⟨fun m σ H1 => ∃ (dn rem : List (Str × D)) (pre' : List Nat) (ks : List (Key × V)) (last : Str) (vw : Option V), m = rem.length ∧ l = dn ++ rem ∧ σ = [some (V.ref a), some (V.ref p), some (V.str last), some (V.bl (!rem.isEmpty)), vw] ∧ (∀ q ∈ rem, ltS last q.1 = true) ∧ SG K H1 a t pre' (recRest post rem) (r - partsK dn) ∧ H1 p = some (.dK ks) ∧ RepK (newH Hb H1) dn ks ∧ Fr [a] H H1, ⟨_, [], l, pre1, [], "", none, rfl, rfl, rfl, hlast0, by rw [partsK]; simpa using sg1, hpp, repK_nil.mpr rfl, f1⟩, ?_⟩
  rintro m σ H2 ⟨dn, rem, pre2, ks, last, vw, rfl, el, rfl, hlast, sg2, hp2, rx, f2⟩
  cases rem with
  | nil =>
    refine ⟨_, rfl, _, rfl, iteF ?_⟩
    rw [List.append_nil] at el
    subst el
    refine ⟨_, rfl, kk _ _ pre2 f2 sg2 (rep_dct.mpr ⟨p, ks, rfl, ?_, rx.mono (newH_le leb)⟩)⟩
    rw [newH_at hp0]
    exact hp2
  | cons d ds =>
    refine ⟨_, rfl, _, rfl, iteT ?_⟩
    obtain ⟨x, d⟩ := d
    have hd := hl (x, d) (by rw [el]; simp)
    have hpt : partsK l = partsK dn + (partsD d + partsK ds) := by rw [el, partsK_sum, partsK_sum, partsK_sum, List.map_append, List.sum_append, List.map_cons, List.sum_cons]
    have hdl : dn.length ≤ partsK dn := partsK_len dn
    have hpw : (∀ q ∈ dn, q.1 ≠ x) ∧ ∀ q ∈ ds, ltS x q.1 = true := by
      rw [el] at hst
      obtain ⟨h1, h2, h3⟩ := List.pairwise_append.mp hst
      refine ⟨fun q hq z => ?_, (List.pairwise_cons.mp h2).1⟩
      have := h3 q hq (x, d) List.mem_cons_self
      rw [z] at this
      rw [ltS_irrefl] at this
      cases this
    refine ⟨fun σ' H' => ∃ (pre' : List Nat) (ks : List (Key × V)) (vw : Option V), σ' = [some (V.ref a), some (V.ref p), some (V.str x), some (V.bl (!ds.isEmpty)), vw] ∧ SG K H' a t pre' (recRest post ds) (r - partsK (dn ++ [(x, d)])) ∧ H' p = some (.dK ks) ∧ RepK (newH Hb H') (dn ++ [(x, d)]) ks ∧ Fr [a] H H', fun σ' H' ⟨pre', ks', vw', e1, e2, e3, e4, e5⟩ => ⟨ds.length, by simp, dn ++ [(x, d)], ds, pre', ks', x, vw', rfl, by rw [el]; simp, e1, hpw.2, e2, e3, e4, e5⟩, ?_⟩
    obtain ⟨ht2, hl2, dx2, ha2⟩ := id sg2
    refine ⟨_, rfl, a, dx2, _, rfl, ha2, (sg_meths _ _ _).2.2.1, a, t, x, pre2, _, _, rfl, sg2, hd.1, .inr ⟨58, _, rfl, by decide⟩, fun H3 f3 sg3 => ?_⟩
    have hp3 := f3.at hp2 (by simp; exact npa)
    refine ⟨_, rfl, _, rfl, _, _, rfl, rfl, _, rfl, ifNB (fun q => absurd (of_decide_eq_true (hlast (x, d) List.mem_cons_self)) q) fun _ => ?_⟩
    obtain ⟨ht3, hl3, dx3, ha3⟩ := id sg3
    refine ⟨_, rfl, a, dx3, _, rfl, ha3, (sg_meths _ _ _).1, a, 58, _, t, _, _, _, rfl, colon, sg3, fun rest' e H4 f4 sg4 => ⟨_, rfl, iteF ?_⟩, fun ne => absurd rfl (ne _)⟩
    injection e with e1 e2
    subst e2
    have hp4 := f4.at hp3 (by simp; exact npa)
    obtain ⟨n', rfl⟩ : ∃ n', n = n' + 1 := ⟨n - 1, by have := partsD_pos d; omega⟩
    refine ⟨_, rfl, a, d, t, _, tailT 125 (ds.map kT) ++ post, r - partsK dn, rfl, by omega, sg4, hd.2.1, hd.2.2, stop_tail (by decide) _ _, by omega, by omega, fun H5 v pre5 f5 sg5 rv => ?_⟩
    have hp5 := f5.at hp4 (by simp; exact npa)
    refine ⟨_, rfl, _, rfl, p, _, rfl, DPut.k (k := Sum.inr x) hp5 (sl_lt (by rw [repK_length rx]; omega)), ?_⟩
    have sg6 : SG K (upd H5 p (.dK (putK ks (Sum.inr x) v))) a t pre5 (tailT 125 (ds.map kT) ++ post) (r - partsK dn - partsD d) := sg5.keep (S := [p]) (Fr.put (by simp)) (by simp; exact npa.symm)
    have f24 : Fr [a] H2 H4 := f3.trans f4
    have rx6 : RepK (newH Hb (upd H5 p (.dK (putK ks (Sum.inr x) v)))) (dn ++ [(x, d)]) (putK ks (Sum.inr x) v) := by
      rw [newH_upd hpn, ← putD_new hpw.1]
      refine repK_put (rx.mono (newH_imm (sg2.imm (f24.trans f5)))) (rv.mono (newH_le ?_))
      exact le2 (sg4.le (f2.trans f24)) hp4
    have f6 : Fr [a] H (upd H5 p (.dK (putK ks (Sum.inr x) v))) := (f2.trans (f24.trans f5)).put_new hp0
    have hp6 : upd H5 p (.dK (putK ks (Sum.inr x) v)) p = some (.dK (putK ks (Sum.inr x) v)) := upd_same
    generalize upd H5 p (.dK (putK ks (Sum.inr x) v)) = H6 at *
    obtain ⟨c, rest, ec, er, hc, hb⟩ : ∃ c rest, tailT 125 (ds.map kT) ++ post = c :: rest ∧ rest = recRest post ds ∧ (c = 44 ∨ c = 125) ∧ decide (c = 44) = !ds.isEmpty := by
      cases ds with
      | nil => exact ⟨125, post, rfl, rfl, .inr rfl, rfl⟩
      | cons e es => exact ⟨44, (kT e ++ tailT 125 (es.map kT)) ++ post, rfl, by rw [kT, recRest]; simp only [List.append_assoc, List.cons_append], .inl rfl, rfl⟩
    rw [ec] at sg6
    obtain ⟨ht6, hl6, dx6, ha6⟩ := id sg6
    refine ⟨_, rfl, _, rfl, a, dx6, _, rfl, ha6, (sg_meths _ _ _).2.2.2, a, c, 125, _, t, pre5, rest, _, rfl, rb, by decide, sg6, hc, fun H7 f7 sg7 => ?_⟩
    rw [hb]
    have ep : r - (partsK dn : Int) - (partsD d : Int) = r - (partsK (dn ++ [(x, d)]) : Int) := by
      have : partsK (dn ++ [(x, d)]) = partsK dn + partsD d := by rw [partsK_sum, partsK_sum, List.map_append, List.sum_append]; simp
      omega
    rw [ep, er] at sg7
    exact ⟨_, _, _, rfl, sg7, f7.at hp6 (by simp; exact npa), rx6.mono (newH_imm (sg6.imm f7)), f6.trans f7⟩
end
end FK
/-! FKP5 -/
set_option maxHeartbeats 400000
namespace FK
open PySem PySem.Spec PyProof.Rows L2
open TL (tl)
def spReadVal : Sp := fun vs H Q _ => ∃ d : D, vs = [.str (showD d)] ∧ WfD d ∧ Srt d ∧ partsD d ≤ 60 ∧ ∀ H' v, Fr [] H H' → Rep H' d v → Q v H'
section
variable {P : Program} {w : World} {K : PySem.W.Frag} {mg : Str → Option Value} {base : Heap}
theorem sc_value_at : FnScope ["signs"] ["signs"] (defScope s_value_at) := C8.fnScope_by (by decide +kernel)
theorem ok_val_step (T : TX K mg) {n k : Nat} (hk : 3 ≤ k) (c_row_at : C8.Cal P w K mg base k "row_at" (spRow K n) []) (c_record_at : C8.Cal P w K mg base k "record_at" (spRec K n) []) : C8.Cal P w K mg base (k + 1) "value_at" (spVal K (n + 1)) [] := by
  have m_take : C8.Met P w K mg base 1 (He.ga K "Signs") "take" (spTake K) [] := ok_take T
  have m_piece : C8.Met P w K mg base 1 (He.ga K "Signs") "piece" (spPiece K) [] := ok_piece T
  have m_next_word : C8.Met P w K mg base 3 (He.ga K "Signs") "next_word" (spNextWord K) [] := ok_next_word T
  have c_number_of : C8.Cal P w K mg base 2 "number_of" spNum [] := ok_number_of T
  refine cal_of T.f_value_at T.g_value_at sc_value_at (fun _ _ _ _ _ _ us hl => match us, hl with | [_], _ => rfl) (fun vs H Q E h => ?_) (fun cdv A outer s H vs Q E hr h => ?_)
  · obtain ⟨a, d, t, pre, post, r, rfl, _⟩ := h
    rfl
  obtain ⟨a, d, t, pre, post, r, rfl, hn, hsg, hw, hs, hst, hp, hr2, kk⟩ := h
  refine ⟨_, (pss_cons (ps_fld (pv 0) (pe_op op_sub (pe_fld (pv 0) rfl) pe_int) rfl)
      (pss_cons (ps_if (pt_cmpR op_lt (pe_fld (pv 0) rfl) pe_int (nomark _)) (pss_one ps_never) pss_nil)
      (pss_cons (ps_if (pt_val (C8.pe_mt m_take hr (by omega) (pv 0) (pa_cons pe_str pa_nil))) (pss_one (ps_ret (C8.pe_c c_row_at hr (by omega) (by rfl) (pa_cons (pv 0) pa_nil)))) pss_nil)
      (pss_cons (ps_if (pt_val (C8.pe_mt m_take hr (by omega) (pv 0) (pa_cons pe_str pa_nil))) (pss_one (ps_ret (C8.pe_c c_record_at hr (by omega) (by rfl) (pa_cons (pv 0) pa_nil)))) pss_nil)
      (pss_cons (ps_if (pt_val (C8.pe_mt m_take hr (by omega) (pv 0) (pa_cons pe_str pa_nil))) (pss_one (ps_ret (C8.pe_mt0 m_next_word hr (by omega) (pv 0)))) pss_nil)
      (pss_one (ps_ret (C8.pe_c c_number_of hr (by omega) (by rfl) (pa_cons (C8.pe_mt0 m_piece hr (by omega) (pv 0)) pa_nil))))))))), ?_⟩
  obtain ⟨t1, t2, t3, t4, t5, t6, t7⟩ := tl_lits
  have lb : ("[" : Str) = ⟨#[91]⟩ := str_eq t2
  have lc : ("{" : Str) = ⟨#[123]⟩ := str_eq t4
  have lq : ("'" : Str) = ⟨#[39]⟩ := str_eq t7
  obtain ⟨ht, hl, dx, ha⟩ := id hsg
  have pos := partsD_pos d
  refine ⟨_, rfl, a, _, dx, _, _, rfl, ha, T.l_Signs, T.n_Signs_room, sg_room _ _ _, _, _, rfl, rfl, _, rfl, a, _, dx, _, rfl, ha, T.l_Signs, T.n_Signs_room, (by show 3 < 1000; decide), ?_⟩
  have e1 : putF ("room" : Str) (V.int (r - 1)) (sgF t (pre.length : Int) r) = sgF t (pre.length : Int) (r - 1) := sg_put_room _ _ _ _
  have sg1 : SG K (upd H a (.ins (He.ga K "Signs") dx (putF ("room" : Str) (V.int (r - 1)) (sgF t (pre.length : Int) r)))) a t pre (dT d ++ post) (r - 1) := ⟨ht, hl, dx, by rw [upd_same, e1]⟩
  have f1 : Fr [a] H (upd H a (.ins (He.ga K "Signs") dx (putF ("room" : Str) (V.int (r - 1)) (sgF t (pre.length : Int) r)))) := Fr.put (by simp)
  have kk1 : ∀ H' v pre', Fr [a] (upd H a (.ins (He.ga K "Signs") dx (putF ("room" : Str) (V.int (r - 1)) (sgF t (pre.length : Int) r)))) H' → SG K H' a t pre' post (r - 1 - (partsD d - 1)) → Rep (newH (upd H a (.ins (He.ga K "Signs") dx (putF ("room" : Str) (V.int (r - 1)) (sgF t (pre.length : Int) r)))) H') d v → Q v H' := fun H' v pre' f sg rv => by
    have ee : r - 1 - ((partsD d : Int) - 1) = r - (partsD d : Int) := by omega
    rw [ee] at sg
    exact kk H' v pre' (f1.trans f) sg (rv.mono (newH_le (sg1.le f1)))
  clear kk
  generalize upd H a (.ins (He.ga K "Signs") dx (putF ("room" : Str) (V.int (r - 1)) (sgF t (pre.length : Int) r))) = H1 at *
  obtain ⟨ht1, hl1, dx1, ha1⟩ := id sg1
  refine ⟨_, rfl, a, _, dx1, _, _, rfl, ha1, T.l_Signs, T.n_Signs_room, sg_room _ _ _, _, _, rfl, rfl, _, rfl, ifB (fun q => absurd q (by omega)) fun _ => ?_⟩
  have kk2 : ∀ H2, Fr [a] H1 H2 → (∀ b, H2 b = none → H1 b = none) → ∀ H' v pre', Fr [a] H2 H' → SG K H' a t pre' post (r - 1 - (partsD d - 1)) → Rep (newH H2 H') d v → Q v H' := fun H2 f2 le H' v pre' f sg rv => kk1 H' v pre' (f2.trans f) sg (rv.mono (newH_le le))
  cases d with
  | tup l =>
    rw [dT_tup] at sg1
    refine ⟨_, rfl, a, dx1, _, rfl, ha1, (sg_meths _ _ _).1, a, 91, _, t, pre, _, r - 1, rfl, lb, sg1, fun rest' e H2 f2 sg2 => ⟨_, rfl, iteT ?_⟩, fun ne => absurd rfl (ne _)⟩
    injection e with e1 e2
    subst e2
    rw [partsD] at hp hr2
    cases hw with
    | tup hw =>
    cases hs with
    | tup hs =>
    refine ⟨_, rfl, a, l, t, _, post, r - 1, rfl, hn, sg2, fun d hd => ⟨hw d hd, hs d hd⟩, by omega, by omega, fun H' v pre' f sg rv => kk2 H2 f2 (sg2.le f2) H' v pre' f ?_ rv⟩
    rw [partsD]
    have ee : r - 1 - (((1 + partsL l : Nat) : Int) - 1) = r - 1 - (partsL l : Int) := by omega
    rw [ee]
    exact sg
  | dct l =>
    cases hw with
    | dct nd wd hw =>
    cases hs with
    | dct sd hs =>
    rw [dT_dct sd] at sg1
    refine ⟨_, rfl, a, dx1, _, rfl, ha1, (sg_meths _ _ _).1, a, 91, _, t, pre, _, r - 1, rfl, lb, sg1, fun rest' e => (by injection e with e1 e2; exact absurd e1 (by decide)), fun _ => ⟨_, rfl, iteF ?_⟩⟩
    refine ⟨_, rfl, a, dx1, _, rfl, ha1, (sg_meths _ _ _).1, a, 123, _, t, pre, _, r - 1, rfl, lc, sg1, fun rest' e H2 f2 sg2 => ⟨_, rfl, iteT ?_⟩, fun ne => absurd rfl (ne _)⟩
    injection e with e1 e2
    subst e2
    rw [partsD] at hp hr2
    refine ⟨_, rfl, a, l, t, _, post, r - 1, rfl, hn, sg2, fun p hp => ⟨wd p hp, hw p hp, hs p hp⟩, sd, by omega, by omega, fun H' v pre' f sg rv => kk2 H2 f2 (sg2.le f2) H' v pre' f ?_ rv⟩
    rw [partsD]
    have ee : r - 1 - (((1 + partsK l : Nat) : Int) - 1) = r - 1 - (partsK l : Int) := by omega
    rw [ee]
    exact sg
  | str x =>
    cases hw with
    | str hw =>
    rw [dT_str] at sg1
    refine ⟨_, rfl, a, dx1, _, rfl, ha1, (sg_meths _ _ _).1, a, 91, _, t, pre, _, r - 1, rfl, lb, sg1, fun rest' e => (by injection e with e1 e2; exact absurd e1 (by decide)), fun _ => ⟨_, rfl, iteF ?_⟩⟩
    refine ⟨_, rfl, a, dx1, _, rfl, ha1, (sg_meths _ _ _).1, a, 123, _, t, pre, _, r - 1, rfl, lc, sg1, fun rest' e => (by injection e with e1 e2; exact absurd e1 (by decide)), fun _ => ⟨_, rfl, iteF ?_⟩⟩
    refine ⟨_, rfl, a, dx1, _, rfl, ha1, (sg_meths _ _ _).1, a, 39, _, t, pre, _, r - 1, rfl, lq, sg1, fun rest' e H2 f2 sg2 => ⟨_, rfl, iteT ?_⟩, fun ne => absurd rfl (ne _)⟩
    injection e with e1 e2
    subst e2
    obtain ⟨ht2, hl2, dx2, ha2⟩ := id sg2
    refine ⟨_, rfl, a, dx2, _, rfl, ha2, (sg_meths _ _ _).2.2.1, a, t, x, _, post, r - 1, rfl, sg2, hw, hst, fun H' f sg => kk2 H2 f2 (sg2.le f2) H' _ _ f (by rw [partsD, show r - 1 - (((1 : Nat) : Int) - 1) = r - 1 by omega]; exact sg) .str⟩
  | int i =>
    cases hw with
    | int hw =>
    rw [dT_int] at sg1
    obtain ⟨c0, r0, ec, hc0⟩ := int_head i
    have no : ∀ c, (c = 91 ∨ c = 123 ∨ c = 39) → ∀ rest', tl (intS i) ++ post ≠ c :: rest' := fun c hc rest' e => by
      rw [ec] at e
      injection e with e1 e2
      omega
    refine ⟨_, rfl, a, dx1, _, rfl, ha1, (sg_meths _ _ _).1, a, 91, _, t, pre, _, r - 1, rfl, lb, sg1, fun rest' e => absurd e (no _ (by simp) _), fun _ => ⟨_, rfl, iteF ?_⟩⟩
    refine ⟨_, rfl, a, dx1, _, rfl, ha1, (sg_meths _ _ _).1, a, 123, _, t, pre, _, r - 1, rfl, lc, sg1, fun rest' e => absurd e (no _ (by simp) _), fun _ => ⟨_, rfl, iteF ?_⟩⟩
    refine ⟨_, rfl, a, dx1, _, rfl, ha1, (sg_meths _ _ _).1, a, 39, _, t, pre, _, r - 1, rfl, lq, sg1, fun rest' e => absurd e (no _ (by simp) _), fun _ => ⟨_, rfl, iteF ?_⟩⟩
    refine ⟨_, rfl, a, dx1, _, rfl, ha1, (sg_meths _ _ _).2.1, a, t, pre, tl (intS i), post, r - 1, rfl, sg1, int_free i, hst, fun H' x hx f sg => ?_⟩
    have ex : x = intS i := str_eq hx
    subst ex
    exact ⟨i, rfl, hw, kk1 H' _ _ f (by rw [partsD, show r - 1 - (((1 : Nat) : Int) - 1) = r - 1 by omega]; exact sg) .int⟩
theorem ok_val (T : TX K mg) : ∀ n, C8.Cal P w K mg base (4 + 2 * n) "value_at" (spVal K n) []
  | 0 => by
    obtain ⟨f, fd, ps, ds, F, a, b, c, d⟩ := (cal_none (P := P) (w := w) (base := base) T.f_value_at T.g_value_at (ps := ["signs"]) (sp := spVal K 0) (fun _ _ _ _ _ _ us hl => match us, hl with | [_], _ => rfl) fun vs H Q E h => h).ex
    exact ⟨f, fd, ps, ds, F.mono (by decide), a, b, c, d⟩
  | n + 1 => ok_val_step T (n := n) (k := 4 + 2 * n + 1) (by omega) (ok_row_at T (by omega) (ok_val T n)) (ok_record_at T (by omega) (ok_val T n))
theorem sc_Signs_init : FnScope ["self", "text"] ["self", "text"] (defScope s_Signs_init) := C8.fnScope_by (by decide +kernel)
theorem ok_Signs (T : TX K mg) : C8.Mak P w K mg base 1 "Signs" (He.ga K "Signs") (fun vs H Q _ => ∃ (a dx : Addr) (t : Str), vs = [.ref a, .str t] ∧ t.length ≤ 1000000 ∧ H a = some (.ins (He.ga K "Signs") dx []) ∧ ∀ H', Fr [a] H H' → SG K H' a t [] (tl t) 60 → Q .non H') [] := by
  refine mak_of T.f_Signs_init T.k_Signs T.g_Signs sc_Signs_init (fun _ _ _ _ _ _ us hl => match us, hl with | [_, _], _ => rfl) (fun vs H Q E h => ?_) (fun cdv A outer s H vs Q E hr h => ?_)
  · obtain ⟨a, dx, t, rfl, _⟩ := h
    rfl
  obtain ⟨a, dx, t, rfl, hl, ha, k⟩ := h
  refine ⟨_, (pss_cons (ps_fld (pv 0) (pv 1) rfl)
      (pss_cons (ps_fld (pv 0) pe_int rfl)
      (pss_one (ps_fld (pv 0) (C8.pe_gc (by rfl) T.c_MOST_PARTS) rfl)))), ?_⟩
  refine ⟨_, rfl, _, rfl, a, _, dx, _, rfl, ha, T.l_Signs, T.n_Signs_text, (by show 0 < 1000; decide), ?_⟩
  refine ⟨_, rfl, a, _, dx, _, rfl, upd_same, T.l_Signs, T.n_Signs_at, (by show 1 < 1000; decide), ?_⟩
  refine ⟨_, rfl, a, _, dx, _, rfl, upd_same, T.l_Signs, T.n_Signs_room, (by show 2 < 1000; decide), ?_⟩
  refine k _ (((Fr.put (by simp)).trans (Fr.put (by simp))).trans (Fr.put (by simp))) ⟨rfl, hl, dx, ?_⟩
  rw [upd_same]
  with_unfolding_all rfl
theorem sc_read_value : FnScope ["text", "signs", "value"] ["text"] (defScope s_read_value) := C8.fnScope_by (by decide +kernel)
theorem ok_read_value (T : TX K mg) : C8.Cal P w K mg base 125 "read_value" spReadVal [] := by
  have c_value_at : C8.Cal P w K mg base 124 "value_at" (spVal K 60) [] := ok_val T 60
  have k_Signs := ok_Signs (P := P) (w := w) (base := base) T
  refine cal_of T.f_read_value T.g_read_value sc_read_value (fun _ _ _ _ _ _ us hl => match us, hl with | [_], _ => rfl) (fun vs H Q E h => ?_) (fun cdv A outer s H vs Q E hr h => ?_)
  · obtain ⟨d, rfl, _⟩ := h
    rfl
  obtain ⟨d, rfl, hw, hs, hp, k⟩ := h
  refine ⟨_, (pss_cons (ps_if (pt_not (pt_val (pe_callB L2.call_isi (by rfl) T.z_isinstance (by decide +kernel) (pa_cons (pv 0) (pa_cons (pe_bltn (v := .ty "str") (by rfl) T.z_str (by decide +kernel) rfl) pa_nil))))) (pss_one ps_never) pss_nil)
      (pss_cons (ps_set (i := 1) sc_read_value.nd rfl (by first | exact Or.inl rfl | exact Or.inr rfl) (C8.pe_mk k_Signs hr (by omega) (by rfl) (pa_cons (pv 0) pa_nil)))
      (pss_cons (ps_set (i := 2) sc_read_value.nd rfl (by first | exact Or.inl rfl | exact Or.inr rfl) (C8.pe_c c_value_at hr (by omega) (by rfl) (pa_cons (pv 1) pa_nil)))
      (pss_cons (ps_if (pt_cmpR op_lt (pe_fld (pv 1) rfl) (pe_callB call_len_str (by rfl) T.z_len (by decide +kernel) (pa_cons (pv 0) pa_nil)) (nomark _)) (pss_one ps_never) pss_nil)
      (pss_one (ps_ret (pv 2))))))), ?_⟩
  have hl : (showD d).length ≤ 2400 := by have := len_show hw; omega
  refine ⟨_, rfl, _, _, _, _, _, rfl, .ty _, .base (.str _), kit_ty kitB_s.2.1, _, rfl, iteF ?_⟩
  refine ⟨_, rfl, fun a dx ha hdx nad => ⟨a, dx, showD d, rfl, by omega, upd_same, fun H1 f1 sg1 => ⟨rfl, ?_⟩⟩⟩
  have f01 : Fr [] H H1 := fun b o hb _ => f1 b o (by rw [upd_ne (ne_of_none hb ha), upd_ne (ne_of_none hb hdx)]; exact hb) (by simp; exact ne_of_none hb ha)
  have sg2 : SG K H1 a (showD d) [] (dT d ++ []) 60 := by rw [List.append_nil]; exact sg1
  refine ⟨_, rfl, a, d, showD d, [], [], 60, rfl, by decide, sg2, hw, hs, .inl rfl, hp, by omega, fun H2 v pre' f2 sg3 rv => ?_⟩
  obtain ⟨ht, hl3, dx3, ha3⟩ := sg3
  rw [List.append_nil] at ht
  refine ⟨_, rfl, a, _, dx3, _, _, rfl, ha3, T.l_Signs, T.n_Signs_at, sg_at _ _ _, _, rfl, _, rfl, Nat.le_trans hl (by decide), _, _, rfl, rfl, _, rfl, ifB (fun q => ?_) fun _ => ?_⟩
  · rw [len_tl, ht] at q
    exact absurd q (Int.lt_irrefl _)
  · refine ⟨_, rfl, k _ _ (fun b o hb _ => ?_) (rv.mono newH_to)⟩
    have nb : b ≠ a := ne_of_none hb ha
    exact f2 b o (f01 b o hb (by simp)) (by simp; exact nb)
end
end FK
/-! FKQ1 -/
set_option maxHeartbeats 400000
namespace FK
open PySem PySem.Spec PyProof.Rows L2
open TL (tl)
/-! ### a class's own function, called through the class -/
structure Clm (P : Program) (w : World) (K : PySem.W.Frag) (mg : Str → Option Value) (base : Heap) (k : Nat) (x : Str) (sp : Sp) : Prop where
  ex : ∃ (C f : Addr) (fd : FuncData) (ps : List Str), mg x = some (.ref C) ∧ PySem.W.readsIn K C (.type "type") = true ∧ PySem.W.specialIn K (.ref C) "__getattribute__" = some (some (.builtin "type.__getattribute__")) ∧
    PySem.W.findCls K (.ref C) (.type "type") "__init__" = some (.val (.ref f)) ∧ PySem.W.keepIn K (.ref f) = true ∧ FnOk P w K mg base C8.CX0 k f fd ps sp ∧ Binds K fd ps []
theorem pe_clm {X : Cx} {x : Str} {k j : Nat} {sp : Sp} {e : Expr} {es : List Expr} {t : TA} {p1 p2 pos : Pos} {pl : Sem Bool} (c : Clm X.prog X.w X.K X.mg X.base k x sp) (hr : Room j X.A) (hk : k ≤ j) (ha : PA X (e :: es) t)
    (hg : Gl X x := by rfl) (hdb : (x == ("__debug__" : Str)) = false := by decide)
    (hc : eval (.Call (.Attribute (.Name x p1) "__init__" p2) (e :: es) [] pos) X.env = (do
      let ov ← eval (.Name x p1) X.env
      standAt p2.atName
      let (f, first) ← holding [ov] (getMethod ov "__init__" pl)
      callWith pos f first (backTo pos (starEach (e :: es) X.env)) (backToKw pos (keywordEach [] X.env))) := by rfl)
    (he : starEach (e :: es) X.env = (false, eval e X.env) :: starEach es X.env := by rfl) (hpl : (backTo pos (starEach es X.env)).any (·.1) = false := by rfl) :
    PE X (.Call (.Attribute (.Name x p1) "__init__" p2) (e :: es) [] pos) (tCall sp [] C8.E0 t) := by
  obtain ⟨C, f, fd, ps, hm, h1, h2, h3, kp, F, b⟩ := c.ex
  refine ⟨fun pins s σ H Q I h => ?_⟩
  refine PySem.W.methodCall_KW (pl := pl) (ld_glob I hg hm ?_ hdb) hc
  refine PySem.W.method_cls I.kIn h2 (PySem.W.cls_value I.kIn h1 h3 (by first | rfl | decide) ?_)
  have I2 : Inv X pins σ H { s with toks := s.toks + 1 } := I.tok _
  refine PySem.W.callWith_K (h₀ := X.base) I.ok.mod.kin kp (thn (ha.run pos pins _ σ H _ I2 h) fun us s2 ⟨vs, H2, I3, r, q⟩ => ⟨I3.kIn, ?_⟩) he hpl
  exact run_fn F (hr.mono hk) b .nil C8.pass0 I3 r q
/-- what the made object says -/
def OpObj (K : PySem.W.Frag) (H : Hp) (v : V) (x : Str) (n : Nat) : Prop := ∃ (a C dx : Addr) (fs : List (Str × V)), v = .ref a ∧ H a = some (.ins C dx fs) ∧ Cls K C ∧ NoAttr K C "word" ∧ NoAttr K C "many" ∧ fs.lookup ("word" : Str) = some (V.str x) ∧ fs.lookup ("many" : Str) = some (V.int (n : Int))
def opF (x : Str) (n : Nat) (kd : Addr) : List (Str × V) := [("word", .str x), ("many", .int (n : Int)), ("kinds", .ref kd)]
def spOpInit (K : PySem.W.Frag) : Sp := fun vs H Q _ => ∃ (a kd C dx : Addr) (x : Str) (ks : List V), vs = [.ref a, .str x, .ref kd] ∧ a ≠ kd ∧ H a = some (.ins C dx []) ∧ H kd = some (.tup ks) ∧ Cls K C ∧ NoAttr K C "word" ∧ NoAttr K C "many" ∧ NoAttr K C "kinds" ∧
  ∀ H', Fr [a] H H' → H' a = some (.ins C dx (opF x ks.length kd)) → Q .non H'
def spInit (C : Addr) (x : Str) (n : Nat) : Sp := fun vs H Q _ => ∃ (a dx : Addr), vs = [.ref a] ∧ H a = some (.ins C dx []) ∧ ∀ H', Fr [a] H H' → ∀ kd, H' a = some (.ins C dx (opF x n kd)) → Q .non H'
def spOpOf (K : PySem.W.Frag) : Sp := fun vs H Q _ => ∃ (x : Str) (n : Nat), vs = [.str x] ∧ (x, n) ∈ opTab ∧ ∀ H' v, Fr [] H H' → OpObj K H' v x n → Q v H'
section
variable {P : Program} {w : World} {K : PySem.W.Frag} {mg : Str → Option Value} {base : Heap}
theorem pe_mk0 {X : Cx} {x : Str} {C : Addr} {sp : Sp} {k j : Nat} {p pos : Pos} (c : C8.Mak X.prog X.w X.K X.mg X.base k x C sp []) (hr : Room j X.A) (hk : k + 1 ≤ j) (hg : Gl X x) (hdb : (x == ("__debug__" : Str)) = false := by decide) : PE X (.Call (.Name x p) [] [] pos) (tMake C sp [] C8.E0 tNil) := by
  obtain ⟨f, fd, ps, ds, M, F, hm, b, d⟩ := c.ex
  exact pe_make0 M F (hr.mono hk) hg hm b d C8.pass0 hdb
theorem sc_Op_init : FnScope ["self", "word", "kinds"] ["self", "word", "kinds"] (defScope s_Op_init) := C8.fnScope_by (by decide +kernel)
theorem ok_Op_init (T : TX K mg) (x : Str) (hx : x = "Op" ∨ x = "Falling" ∨ x = "Sure") : Clm P w K mg base 1 x (spOpInit K) := by
  obtain ⟨fd, F⟩ := T.f_Op_init
  have ex := T.ex
  unfold exB at ex
  have hm : mg x = some (.ref (He.ga K x)) := by
    rcases hx with rfl | rfl | rfl
    · exact T.g_Op
    · exact T.g_Falling
    · exact T.g_Sure
  have h1 := List.all_eq_true.mp ex x (by rcases hx with rfl | rfl | rfl <;> simp)
  rw [Bool.and_eq_true, Bool.and_eq_true] at h1
  obtain ⟨r1, r2, r3⟩ := h1
  have f3 : PySem.W.findCls K (.ref (He.ga K x)) (.type "type") "__init__" = some (.val (.ref (He.ma K (He.ga K "Op") "__init__"))) := by
    cases z : PySem.W.findCls K (.ref (He.ga K x)) (.type "type") "__init__" with
    | none => rw [z] at r3; cases r3
    | some y =>
      rw [z] at r3
      cases y with
      | val v =>
        cases v with
        | ref g => rw [of_decide_eq_true r3]
        | _ => cases r3
      | _ => cases r3
  refine ⟨_, _, fd, ["self", "word", "kinds"], hm, r1, of_decide_eq_true r2, f3, F.kp, fnok F sc_Op_init (fun vs H Q E h => ?_) (fun cdv A outer s H vs Q E hr h => ?_), F.bindsN (fun _ _ _ _ _ _ us hl => match us, hl with | [_, _, _], _ => rfl)⟩
  · obtain ⟨a, kd, C, dx, x, ks, rfl, _⟩ := h
    rfl
  obtain ⟨a, kd, C, dx, x, ks, rfl, nak, ha, hk, c, n1, n2, n3, k⟩ := h
  refine ⟨_, (pss_cons (ps_fld (pv 0) (pv 1) rfl)
      (pss_cons (ps_fld (pv 0) (pe_callB call_len_seq (by rfl) T.z_len (by decide +kernel) (pa_cons (pv 2) pa_nil)) rfl)
      (pss_one (ps_fld (pv 0) (pv 2) rfl)))), ?_⟩
  refine ⟨_, rfl, _, rfl, a, _, dx, _, rfl, ha, c, n1, (by show 0 < 1000; decide), ?_⟩
  refine ⟨_, rfl, kd, _, rfl, .inr (sqT_of ((upd_ne nak.symm).trans hk)), _, rfl, a, _, dx, _, rfl, upd_same, c, n2, (by show 1 < 1000; decide), ?_⟩
  refine ⟨_, rfl, _, rfl, a, _, dx, _, rfl, upd_same, c, n3, (by show 2 < 1000; decide), ?_⟩
  refine k _ (((Fr.put (by simp)).trans (Fr.put (by simp))).trans (Fr.put (by simp))) ?_
  rw [upd_same]
  with_unfolding_all rfl
theorem ok_i_Op (T : TX K mg) : Clm P w K mg base 1 "Op" (spOpInit K) := ok_Op_init T _ (.inl rfl)
theorem ok_i_Falling (T : TX K mg) : Clm P w K mg base 1 "Falling" (spOpInit K) := ok_Op_init T _ (.inr (.inl rfl))
theorem ok_i_Sure (T : TX K mg) : Clm P w K mg base 1 "Sure" (spOpInit K) := ok_Op_init T _ (.inr (.inr rfl))
theorem sc_Add_init : FnScope ["self"] ["self"] (defScope s_Add_init) := C8.fnScope_by (by decide +kernel)
theorem ok_Add (T : TX K mg) : C8.Mak P w K mg base 2 "Add" (He.ga K "Add") (spInit (He.ga K "Add") "add" 2) [] := by
  have i_Op := ok_i_Op (P := P) (w := w) (base := base) T
  refine mak_of T.f_Add_init T.k_Add T.g_Add sc_Add_init (fun _ _ _ _ _ _ us hl => match us, hl with | [_], _ => rfl) (fun vs H Q E h => ?_) (fun cdv A outer s H vs Q E hr h => ?_)
  · obtain ⟨a, dx, rfl, _⟩ := h
    rfl
  obtain ⟨a, dx, rfl, ha, k⟩ := h
  refine ⟨_, (pss_one (ps_expr (pe_clm i_Op hr (by omega) (pa_cons (pv 0) (pa_cons pe_str (pa_cons (pe_tup (pa_cons pe_str (pa_cons pe_str pa_nil))) pa_nil)))))), ?_⟩
  exact ⟨_, rfl, sl2, fun p hp => ⟨a, p, _, dx, _, _, rfl, ne_of_none ha hp, (Fr.new (S := []) hp).at ha, upd_same, T.l_Add, T.n_Add_word, T.n_Add_many, T.n_Add_kinds, fun H' f h' => k H' ((Fr.new hp).trans f) _ h'⟩⟩
theorem sc_Sub_init : FnScope ["self"] ["self"] (defScope s_Sub_init) := C8.fnScope_by (by decide +kernel)
theorem ok_Sub (T : TX K mg) : C8.Mak P w K mg base 2 "Sub" (He.ga K "Sub") (spInit (He.ga K "Sub") "sub" 2) [] := by
  have i_Op := ok_i_Op (P := P) (w := w) (base := base) T
  refine mak_of T.f_Sub_init T.k_Sub T.g_Sub sc_Sub_init (fun _ _ _ _ _ _ us hl => match us, hl with | [_], _ => rfl) (fun vs H Q E h => ?_) (fun cdv A outer s H vs Q E hr h => ?_)
  · obtain ⟨a, dx, rfl, _⟩ := h
    rfl
  obtain ⟨a, dx, rfl, ha, k⟩ := h
  refine ⟨_, (pss_one (ps_expr (pe_clm i_Op hr (by omega) (pa_cons (pv 0) (pa_cons pe_str (pa_cons (pe_tup (pa_cons pe_str (pa_cons pe_str pa_nil))) pa_nil)))))), ?_⟩
  exact ⟨_, rfl, sl2, fun p hp => ⟨a, p, _, dx, _, _, rfl, ne_of_none ha hp, (Fr.new (S := []) hp).at ha, upd_same, T.l_Sub, T.n_Sub_word, T.n_Sub_many, T.n_Sub_kinds, fun H' f h' => k H' ((Fr.new hp).trans f) _ h'⟩⟩
theorem sc_Mul_init : FnScope ["self"] ["self"] (defScope s_Mul_init) := C8.fnScope_by (by decide +kernel)
theorem ok_Mul (T : TX K mg) : C8.Mak P w K mg base 2 "Mul" (He.ga K "Mul") (spInit (He.ga K "Mul") "mul" 2) [] := by
  have i_Op := ok_i_Op (P := P) (w := w) (base := base) T
  refine mak_of T.f_Mul_init T.k_Mul T.g_Mul sc_Mul_init (fun _ _ _ _ _ _ us hl => match us, hl with | [_], _ => rfl) (fun vs H Q E h => ?_) (fun cdv A outer s H vs Q E hr h => ?_)
  · obtain ⟨a, dx, rfl, _⟩ := h
    rfl
  obtain ⟨a, dx, rfl, ha, k⟩ := h
  refine ⟨_, (pss_one (ps_expr (pe_clm i_Op hr (by omega) (pa_cons (pv 0) (pa_cons pe_str (pa_cons (pe_tup (pa_cons pe_str (pa_cons pe_str pa_nil))) pa_nil)))))), ?_⟩
  exact ⟨_, rfl, sl2, fun p hp => ⟨a, p, _, dx, _, _, rfl, ne_of_none ha hp, (Fr.new (S := []) hp).at ha, upd_same, T.l_Mul, T.n_Mul_word, T.n_Mul_many, T.n_Mul_kinds, fun H' f h' => k H' ((Fr.new hp).trans f) _ h'⟩⟩
theorem sc_Div_init : FnScope ["self"] ["self"] (defScope s_Div_init) := C8.fnScope_by (by decide +kernel)
theorem ok_Div (T : TX K mg) : C8.Mak P w K mg base 2 "Div" (He.ga K "Div") (spInit (He.ga K "Div") "div" 2) [] := by
  have i_Op := ok_i_Op (P := P) (w := w) (base := base) T
  refine mak_of T.f_Div_init T.k_Div T.g_Div sc_Div_init (fun _ _ _ _ _ _ us hl => match us, hl with | [_], _ => rfl) (fun vs H Q E h => ?_) (fun cdv A outer s H vs Q E hr h => ?_)
  · obtain ⟨a, dx, rfl, _⟩ := h
    rfl
  obtain ⟨a, dx, rfl, ha, k⟩ := h
  refine ⟨_, (pss_one (ps_expr (pe_clm i_Op hr (by omega) (pa_cons (pv 0) (pa_cons pe_str (pa_cons (pe_tup (pa_cons pe_str (pa_cons pe_str pa_nil))) pa_nil)))))), ?_⟩
  exact ⟨_, rfl, sl2, fun p hp => ⟨a, p, _, dx, _, _, rfl, ne_of_none ha hp, (Fr.new (S := []) hp).at ha, upd_same, T.l_Div, T.n_Div_word, T.n_Div_many, T.n_Div_kinds, fun H' f h' => k H' ((Fr.new hp).trans f) _ h'⟩⟩
theorem sc_Rem_init : FnScope ["self"] ["self"] (defScope s_Rem_init) := C8.fnScope_by (by decide +kernel)
theorem ok_Rem (T : TX K mg) : C8.Mak P w K mg base 2 "Rem" (He.ga K "Rem") (spInit (He.ga K "Rem") "rem" 2) [] := by
  have i_Op := ok_i_Op (P := P) (w := w) (base := base) T
  refine mak_of T.f_Rem_init T.k_Rem T.g_Rem sc_Rem_init (fun _ _ _ _ _ _ us hl => match us, hl with | [_], _ => rfl) (fun vs H Q E h => ?_) (fun cdv A outer s H vs Q E hr h => ?_)
  · obtain ⟨a, dx, rfl, _⟩ := h
    rfl
  obtain ⟨a, dx, rfl, ha, k⟩ := h
  refine ⟨_, (pss_one (ps_expr (pe_clm i_Op hr (by omega) (pa_cons (pv 0) (pa_cons pe_str (pa_cons (pe_tup (pa_cons pe_str (pa_cons pe_str pa_nil))) pa_nil)))))), ?_⟩
  exact ⟨_, rfl, sl2, fun p hp => ⟨a, p, _, dx, _, _, rfl, ne_of_none ha hp, (Fr.new (S := []) hp).at ha, upd_same, T.l_Rem, T.n_Rem_word, T.n_Rem_many, T.n_Rem_kinds, fun H' f h' => k H' ((Fr.new hp).trans f) _ h'⟩⟩
theorem sc_Less_init : FnScope ["self"] ["self"] (defScope s_Less_init) := C8.fnScope_by (by decide +kernel)
theorem ok_Less (T : TX K mg) : C8.Mak P w K mg base 2 "Less" (He.ga K "Less") (spInit (He.ga K "Less") "less" 2) [] := by
  have i_Op := ok_i_Op (P := P) (w := w) (base := base) T
  refine mak_of T.f_Less_init T.k_Less T.g_Less sc_Less_init (fun _ _ _ _ _ _ us hl => match us, hl with | [_], _ => rfl) (fun vs H Q E h => ?_) (fun cdv A outer s H vs Q E hr h => ?_)
  · obtain ⟨a, dx, rfl, _⟩ := h
    rfl
  obtain ⟨a, dx, rfl, ha, k⟩ := h
  refine ⟨_, (pss_one (ps_expr (pe_clm i_Op hr (by omega) (pa_cons (pv 0) (pa_cons pe_str (pa_cons (pe_tup (pa_cons pe_str (pa_cons pe_str pa_nil))) pa_nil)))))), ?_⟩
  exact ⟨_, rfl, sl2, fun p hp => ⟨a, p, _, dx, _, _, rfl, ne_of_none ha hp, (Fr.new (S := []) hp).at ha, upd_same, T.l_Less, T.n_Less_word, T.n_Less_many, T.n_Less_kinds, fun H' f h' => k H' ((Fr.new hp).trans f) _ h'⟩⟩
theorem sc_Same_init : FnScope ["self"] ["self"] (defScope s_Same_init) := C8.fnScope_by (by decide +kernel)
theorem ok_Same (T : TX K mg) : C8.Mak P w K mg base 2 "Same" (He.ga K "Same") (spInit (He.ga K "Same") "same" 2) [] := by
  have i_Sure := ok_i_Sure (P := P) (w := w) (base := base) T
  refine mak_of T.f_Same_init T.k_Same T.g_Same sc_Same_init (fun _ _ _ _ _ _ us hl => match us, hl with | [_], _ => rfl) (fun vs H Q E h => ?_) (fun cdv A outer s H vs Q E hr h => ?_)
  · obtain ⟨a, dx, rfl, _⟩ := h
    rfl
  obtain ⟨a, dx, rfl, ha, k⟩ := h
  refine ⟨_, (pss_one (ps_expr (pe_clm i_Sure hr (by omega) (pa_cons (pv 0) (pa_cons pe_str (pa_cons (pe_tup (pa_cons pe_str (pa_cons pe_str pa_nil))) pa_nil)))))), ?_⟩
  exact ⟨_, rfl, sl2, fun p hp => ⟨a, p, _, dx, _, _, rfl, ne_of_none ha hp, (Fr.new (S := []) hp).at ha, upd_same, T.l_Same, T.n_Same_word, T.n_Same_many, T.n_Same_kinds, fun H' f h' => k H' ((Fr.new hp).trans f) _ h'⟩⟩
theorem sc_Down_init : FnScope ["self"] ["self"] (defScope s_Down_init) := C8.fnScope_by (by decide +kernel)
theorem ok_Down (T : TX K mg) : C8.Mak P w K mg base 2 "Down" (He.ga K "Down") (spInit (He.ga K "Down") "down" 1) [] := by
  have i_Falling := ok_i_Falling (P := P) (w := w) (base := base) T
  refine mak_of T.f_Down_init T.k_Down T.g_Down sc_Down_init (fun _ _ _ _ _ _ us hl => match us, hl with | [_], _ => rfl) (fun vs H Q E h => ?_) (fun cdv A outer s H vs Q E hr h => ?_)
  · obtain ⟨a, dx, rfl, _⟩ := h
    rfl
  obtain ⟨a, dx, rfl, ha, k⟩ := h
  refine ⟨_, (pss_one (ps_expr (pe_clm i_Falling hr (by omega) (pa_cons (pv 0) (pa_cons pe_str (pa_cons (pe_tup (pa_cons pe_str pa_nil)) pa_nil)))))), ?_⟩
  exact ⟨_, rfl, sl1, fun p hp => ⟨a, p, _, dx, _, _, rfl, ne_of_none ha hp, (Fr.new (S := []) hp).at ha, upd_same, T.l_Down, T.n_Down_word, T.n_Down_many, T.n_Down_kinds, fun H' f h' => k H' ((Fr.new hp).trans f) _ h'⟩⟩
theorem sc_KindOf_init : FnScope ["self"] ["self"] (defScope s_KindOf_init) := C8.fnScope_by (by decide +kernel)
theorem ok_KindOf (T : TX K mg) : C8.Mak P w K mg base 2 "KindOf" (He.ga K "KindOf") (spInit (He.ga K "KindOf") "kind" 1) [] := by
  have i_Sure := ok_i_Sure (P := P) (w := w) (base := base) T
  refine mak_of T.f_KindOf_init T.k_KindOf T.g_KindOf sc_KindOf_init (fun _ _ _ _ _ _ us hl => match us, hl with | [_], _ => rfl) (fun vs H Q E h => ?_) (fun cdv A outer s H vs Q E hr h => ?_)
  · obtain ⟨a, dx, rfl, _⟩ := h
    rfl
  obtain ⟨a, dx, rfl, ha, k⟩ := h
  refine ⟨_, (pss_one (ps_expr (pe_clm i_Sure hr (by omega) (pa_cons (pv 0) (pa_cons pe_str (pa_cons (pe_tup (pa_cons pe_str pa_nil)) pa_nil)))))), ?_⟩
  exact ⟨_, rfl, sl1, fun p hp => ⟨a, p, _, dx, _, _, rfl, ne_of_none ha hp, (Fr.new (S := []) hp).at ha, upd_same, T.l_KindOf, T.n_KindOf_word, T.n_KindOf_many, T.n_KindOf_kinds, fun H' f h' => k H' ((Fr.new hp).trans f) _ h'⟩⟩
theorem sc_Front_init : FnScope ["self"] ["self"] (defScope s_Front_init) := C8.fnScope_by (by decide +kernel)
theorem ok_Front (T : TX K mg) : C8.Mak P w K mg base 2 "Front" (He.ga K "Front") (spInit (He.ga K "Front") "front" 2) [] := by
  have i_Op := ok_i_Op (P := P) (w := w) (base := base) T
  refine mak_of T.f_Front_init T.k_Front T.g_Front sc_Front_init (fun _ _ _ _ _ _ us hl => match us, hl with | [_], _ => rfl) (fun vs H Q E h => ?_) (fun cdv A outer s H vs Q E hr h => ?_)
  · obtain ⟨a, dx, rfl, _⟩ := h
    rfl
  obtain ⟨a, dx, rfl, ha, k⟩ := h
  refine ⟨_, (pss_one (ps_expr (pe_clm i_Op hr (by omega) (pa_cons (pv 0) (pa_cons pe_str (pa_cons (pe_tup (pa_cons pe_str (pa_cons pe_str pa_nil))) pa_nil)))))), ?_⟩
  exact ⟨_, rfl, sl2, fun p hp => ⟨a, p, _, dx, _, _, rfl, ne_of_none ha hp, (Fr.new (S := []) hp).at ha, upd_same, T.l_Front, T.n_Front_word, T.n_Front_many, T.n_Front_kinds, fun H' f h' => k H' ((Fr.new hp).trans f) _ h'⟩⟩
theorem sc_Head_init : FnScope ["self"] ["self"] (defScope s_Head_init) := C8.fnScope_by (by decide +kernel)
theorem ok_Head (T : TX K mg) : C8.Mak P w K mg base 2 "Head" (He.ga K "Head") (spInit (He.ga K "Head") "head" 1) [] := by
  have i_Falling := ok_i_Falling (P := P) (w := w) (base := base) T
  refine mak_of T.f_Head_init T.k_Head T.g_Head sc_Head_init (fun _ _ _ _ _ _ us hl => match us, hl with | [_], _ => rfl) (fun vs H Q E h => ?_) (fun cdv A outer s H vs Q E hr h => ?_)
  · obtain ⟨a, dx, rfl, _⟩ := h
    rfl
  obtain ⟨a, dx, rfl, ha, k⟩ := h
  refine ⟨_, (pss_one (ps_expr (pe_clm i_Falling hr (by omega) (pa_cons (pv 0) (pa_cons pe_str (pa_cons (pe_tup (pa_cons pe_str pa_nil)) pa_nil)))))), ?_⟩
  exact ⟨_, rfl, sl1, fun p hp => ⟨a, p, _, dx, _, _, rfl, ne_of_none ha hp, (Fr.new (S := []) hp).at ha, upd_same, T.l_Head, T.n_Head_word, T.n_Head_many, T.n_Head_kinds, fun H' f h' => k H' ((Fr.new hp).trans f) _ h'⟩⟩
theorem sc_Rest_init : FnScope ["self"] ["self"] (defScope s_Rest_init) := C8.fnScope_by (by decide +kernel)
theorem ok_Rest (T : TX K mg) : C8.Mak P w K mg base 2 "Rest" (He.ga K "Rest") (spInit (He.ga K "Rest") "rest" 1) [] := by
  have i_Falling := ok_i_Falling (P := P) (w := w) (base := base) T
  refine mak_of T.f_Rest_init T.k_Rest T.g_Rest sc_Rest_init (fun _ _ _ _ _ _ us hl => match us, hl with | [_], _ => rfl) (fun vs H Q E h => ?_) (fun cdv A outer s H vs Q E hr h => ?_)
  · obtain ⟨a, dx, rfl, _⟩ := h
    rfl
  obtain ⟨a, dx, rfl, ha, k⟩ := h
  refine ⟨_, (pss_one (ps_expr (pe_clm i_Falling hr (by omega) (pa_cons (pv 0) (pa_cons pe_str (pa_cons (pe_tup (pa_cons pe_str pa_nil)) pa_nil)))))), ?_⟩
  exact ⟨_, rfl, sl1, fun p hp => ⟨a, p, _, dx, _, _, rfl, ne_of_none ha hp, (Fr.new (S := []) hp).at ha, upd_same, T.l_Rest, T.n_Rest_word, T.n_Rest_many, T.n_Rest_kinds, fun H' f h' => k H' ((Fr.new hp).trans f) _ h'⟩⟩
theorem sc_Many_init : FnScope ["self"] ["self"] (defScope s_Many_init) := C8.fnScope_by (by decide +kernel)
theorem ok_Many (T : TX K mg) : C8.Mak P w K mg base 2 "Many" (He.ga K "Many") (spInit (He.ga K "Many") "many" 1) [] := by
  have i_Op := ok_i_Op (P := P) (w := w) (base := base) T
  refine mak_of T.f_Many_init T.k_Many T.g_Many sc_Many_init (fun _ _ _ _ _ _ us hl => match us, hl with | [_], _ => rfl) (fun vs H Q E h => ?_) (fun cdv A outer s H vs Q E hr h => ?_)
  · obtain ⟨a, dx, rfl, _⟩ := h
    rfl
  obtain ⟨a, dx, rfl, ha, k⟩ := h
  refine ⟨_, (pss_one (ps_expr (pe_clm i_Op hr (by omega) (pa_cons (pv 0) (pa_cons pe_str (pa_cons (pe_tup (pa_cons pe_str pa_nil)) pa_nil)))))), ?_⟩
  exact ⟨_, rfl, sl1, fun p hp => ⟨a, p, _, dx, _, _, rfl, ne_of_none ha hp, (Fr.new (S := []) hp).at ha, upd_same, T.l_Many, T.n_Many_word, T.n_Many_many, T.n_Many_kinds, fun H' f h' => k H' ((Fr.new hp).trans f) _ h'⟩⟩
theorem sc_Item_init : FnScope ["self"] ["self"] (defScope s_Item_init) := C8.fnScope_by (by decide +kernel)
theorem ok_Item (T : TX K mg) : C8.Mak P w K mg base 2 "Item" (He.ga K "Item") (spInit (He.ga K "Item") "item" 2) [] := by
  have i_Falling := ok_i_Falling (P := P) (w := w) (base := base) T
  refine mak_of T.f_Item_init T.k_Item T.g_Item sc_Item_init (fun _ _ _ _ _ _ us hl => match us, hl with | [_], _ => rfl) (fun vs H Q E h => ?_) (fun cdv A outer s H vs Q E hr h => ?_)
  · obtain ⟨a, dx, rfl, _⟩ := h
    rfl
  obtain ⟨a, dx, rfl, ha, k⟩ := h
  refine ⟨_, (pss_one (ps_expr (pe_clm i_Falling hr (by omega) (pa_cons (pv 0) (pa_cons pe_str (pa_cons (pe_tup (pa_cons pe_str (pa_cons pe_str pa_nil))) pa_nil)))))), ?_⟩
  exact ⟨_, rfl, sl2, fun p hp => ⟨a, p, _, dx, _, _, rfl, ne_of_none ha hp, (Fr.new (S := []) hp).at ha, upd_same, T.l_Item, T.n_Item_word, T.n_Item_many, T.n_Item_kinds, fun H' f h' => k H' ((Fr.new hp).trans f) _ h'⟩⟩
theorem sc_Put_init : FnScope ["self"] ["self"] (defScope s_Put_init) := C8.fnScope_by (by decide +kernel)
theorem ok_Put (T : TX K mg) : C8.Mak P w K mg base 2 "Put" (He.ga K "Put") (spInit (He.ga K "Put") "put" 3) [] := by
  have i_Op := ok_i_Op (P := P) (w := w) (base := base) T
  refine mak_of T.f_Put_init T.k_Put T.g_Put sc_Put_init (fun _ _ _ _ _ _ us hl => match us, hl with | [_], _ => rfl) (fun vs H Q E h => ?_) (fun cdv A outer s H vs Q E hr h => ?_)
  · obtain ⟨a, dx, rfl, _⟩ := h
    rfl
  obtain ⟨a, dx, rfl, ha, k⟩ := h
  refine ⟨_, (pss_one (ps_expr (pe_clm i_Op hr (by omega) (pa_cons (pv 0) (pa_cons pe_str (pa_cons (pe_tup (pa_cons pe_str (pa_cons pe_str (pa_cons pe_str pa_nil)))) pa_nil)))))), ?_⟩
  exact ⟨_, rfl, sl3, fun p hp => ⟨a, p, _, dx, _, _, rfl, ne_of_none ha hp, (Fr.new (S := []) hp).at ha, upd_same, T.l_Put, T.n_Put_word, T.n_Put_many, T.n_Put_kinds, fun H' f h' => k H' ((Fr.new hp).trans f) _ h'⟩⟩
theorem sc_Field_init : FnScope ["self"] ["self"] (defScope s_Field_init) := C8.fnScope_by (by decide +kernel)
theorem ok_Field (T : TX K mg) : C8.Mak P w K mg base 2 "Field" (He.ga K "Field") (spInit (He.ga K "Field") "field" 2) [] := by
  have i_Falling := ok_i_Falling (P := P) (w := w) (base := base) T
  refine mak_of T.f_Field_init T.k_Field T.g_Field sc_Field_init (fun _ _ _ _ _ _ us hl => match us, hl with | [_], _ => rfl) (fun vs H Q E h => ?_) (fun cdv A outer s H vs Q E hr h => ?_)
  · obtain ⟨a, dx, rfl, _⟩ := h
    rfl
  obtain ⟨a, dx, rfl, ha, k⟩ := h
  refine ⟨_, (pss_one (ps_expr (pe_clm i_Falling hr (by omega) (pa_cons (pv 0) (pa_cons pe_str (pa_cons (pe_tup (pa_cons pe_str (pa_cons pe_str pa_nil))) pa_nil)))))), ?_⟩
  exact ⟨_, rfl, sl2, fun p hp => ⟨a, p, _, dx, _, _, rfl, ne_of_none ha hp, (Fr.new (S := []) hp).at ha, upd_same, T.l_Field, T.n_Field_word, T.n_Field_many, T.n_Field_kinds, fun H' f h' => k H' ((Fr.new hp).trans f) _ h'⟩⟩
theorem sc_SetIn_init : FnScope ["self"] ["self"] (defScope s_SetIn_init) := C8.fnScope_by (by decide +kernel)
theorem ok_SetIn (T : TX K mg) : C8.Mak P w K mg base 2 "SetIn" (He.ga K "SetIn") (spInit (He.ga K "SetIn") "set" 3) [] := by
  have i_Op := ok_i_Op (P := P) (w := w) (base := base) T
  refine mak_of T.f_SetIn_init T.k_SetIn T.g_SetIn sc_SetIn_init (fun _ _ _ _ _ _ us hl => match us, hl with | [_], _ => rfl) (fun vs H Q E h => ?_) (fun cdv A outer s H vs Q E hr h => ?_)
  · obtain ⟨a, dx, rfl, _⟩ := h
    rfl
  obtain ⟨a, dx, rfl, ha, k⟩ := h
  refine ⟨_, (pss_one (ps_expr (pe_clm i_Op hr (by omega) (pa_cons (pv 0) (pa_cons pe_str (pa_cons (pe_tup (pa_cons pe_str (pa_cons pe_str (pa_cons pe_str pa_nil)))) pa_nil)))))), ?_⟩
  exact ⟨_, rfl, sl3, fun p hp => ⟨a, p, _, dx, _, _, rfl, ne_of_none ha hp, (Fr.new (S := []) hp).at ha, upd_same, T.l_SetIn, T.n_SetIn_word, T.n_SetIn_many, T.n_SetIn_kinds, fun H' f h' => k H' ((Fr.new hp).trans f) _ h'⟩⟩
theorem sc_op_of : FnScope ["word"] ["word"] (defScope s_op_of) := C8.fnScope_by (by decide +kernel)
theorem ok_op_of (T : TX K mg) : C8.Cal P w K mg base 4 "op_of" (spOpOf K) [] := by
  have k_Add := ok_Add (P := P) (w := w) (base := base) T
  have k_Sub := ok_Sub (P := P) (w := w) (base := base) T
  have k_Mul := ok_Mul (P := P) (w := w) (base := base) T
  have k_Div := ok_Div (P := P) (w := w) (base := base) T
  have k_Rem := ok_Rem (P := P) (w := w) (base := base) T
  have k_Less := ok_Less (P := P) (w := w) (base := base) T
  have k_Same := ok_Same (P := P) (w := w) (base := base) T
  have k_Down := ok_Down (P := P) (w := w) (base := base) T
  have k_KindOf := ok_KindOf (P := P) (w := w) (base := base) T
  have k_Front := ok_Front (P := P) (w := w) (base := base) T
  have k_Head := ok_Head (P := P) (w := w) (base := base) T
  have k_Rest := ok_Rest (P := P) (w := w) (base := base) T
  have k_Many := ok_Many (P := P) (w := w) (base := base) T
  have k_Item := ok_Item (P := P) (w := w) (base := base) T
  have k_Put := ok_Put (P := P) (w := w) (base := base) T
  have k_Field := ok_Field (P := P) (w := w) (base := base) T
  have k_SetIn := ok_SetIn (P := P) (w := w) (base := base) T
  refine cal_of T.f_op_of T.g_op_of sc_op_of (fun _ _ _ _ _ _ us hl => match us, hl with | [_], _ => rfl) (fun vs H Q E h => ?_) (fun cdv A outer s H vs Q E hr h => ?_)
  · obtain ⟨x, n, rfl, _⟩ := h
    rfl
  obtain ⟨x, n, rfl, hx, k⟩ := h
  refine ⟨_, (pss_cons (ps_if (pt_cmpR op_eq (pv 0) pe_str (nomark _)) (pss_one (ps_ret (pe_mk0 k_Add hr (by omega) (by rfl)))) pss_nil)
      (pss_cons (ps_if (pt_cmpR op_eq (pv 0) pe_str (nomark _)) (pss_one (ps_ret (pe_mk0 k_Sub hr (by omega) (by rfl)))) pss_nil)
      (pss_cons (ps_if (pt_cmpR op_eq (pv 0) pe_str (nomark _)) (pss_one (ps_ret (pe_mk0 k_Mul hr (by omega) (by rfl)))) pss_nil)
      (pss_cons (ps_if (pt_cmpR op_eq (pv 0) pe_str (nomark _)) (pss_one (ps_ret (pe_mk0 k_Div hr (by omega) (by rfl)))) pss_nil)
      (pss_cons (ps_if (pt_cmpR op_eq (pv 0) pe_str (nomark _)) (pss_one (ps_ret (pe_mk0 k_Rem hr (by omega) (by rfl)))) pss_nil)
      (pss_cons (ps_if (pt_cmpR op_eq (pv 0) pe_str (nomark _)) (pss_one (ps_ret (pe_mk0 k_Less hr (by omega) (by rfl)))) pss_nil)
      (pss_cons (ps_if (pt_cmpR op_eq (pv 0) pe_str (nomark _)) (pss_one (ps_ret (pe_mk0 k_Same hr (by omega) (by rfl)))) pss_nil)
      (pss_cons (ps_if (pt_cmpR op_eq (pv 0) pe_str (nomark _)) (pss_one (ps_ret (pe_mk0 k_Down hr (by omega) (by rfl)))) pss_nil)
      (pss_cons (ps_if (pt_cmpR op_eq (pv 0) pe_str (nomark _)) (pss_one (ps_ret (pe_mk0 k_KindOf hr (by omega) (by rfl)))) pss_nil)
      (pss_cons (ps_if (pt_cmpR op_eq (pv 0) pe_str (nomark _)) (pss_one (ps_ret (pe_mk0 k_Front hr (by omega) (by rfl)))) pss_nil)
      (pss_cons (ps_if (pt_cmpR op_eq (pv 0) pe_str (nomark _)) (pss_one (ps_ret (pe_mk0 k_Head hr (by omega) (by rfl)))) pss_nil)
      (pss_cons (ps_if (pt_cmpR op_eq (pv 0) pe_str (nomark _)) (pss_one (ps_ret (pe_mk0 k_Rest hr (by omega) (by rfl)))) pss_nil)
      (pss_cons (ps_if (pt_cmpR op_eq (pv 0) pe_str (nomark _)) (pss_one (ps_ret (pe_mk0 k_Many hr (by omega) (by rfl)))) pss_nil)
      (pss_cons (ps_if (pt_cmpR op_eq (pv 0) pe_str (nomark _)) (pss_one (ps_ret (pe_mk0 k_Item hr (by omega) (by rfl)))) pss_nil)
      (pss_cons (ps_if (pt_cmpR op_eq (pv 0) pe_str (nomark _)) (pss_one (ps_ret (pe_mk0 k_Put hr (by omega) (by rfl)))) pss_nil)
      (pss_cons (ps_if (pt_cmpR op_eq (pv 0) pe_str (nomark _)) (pss_one (ps_ret (pe_mk0 k_Field hr (by omega) (by rfl)))) pss_nil)
      (pss_cons (ps_if (pt_cmpR op_eq (pv 0) pe_str (nomark _)) (pss_one (ps_ret (pe_mk0 k_SetIn hr (by omega) (by rfl)))) pss_nil)
      (pss_one ps_never)))))))))))))))))), ?_⟩
  have no : ∀ i : Nat, i < 17 → ∀ j : Nat, j < 17 → i ≠ j → ¬ (opTab.getD i (Str.empty, 0)).1 = (opTab.getD j (Str.empty, 0)).1 := by decide +kernel
  have fin : ∀ (C : Addr) (wd : Str) (m : Nat), Cls K C → NoAttr K C "word" → NoAttr K C "many" → (x, n) = (wd, m) → ∀ a dx, H a = none → H dx = none → dx ≠ a → spInit C wd m (V.ref a :: ([] ++ [])) (upd (upd H dx (.own a)) a (.ins C dx [])) (fun v H2 => v = .non ∧ Q (.ref a) H2) C8.E0 := fun C wd m h1 h2 h3 e a dx ha hdx nad => by
    injection e with e1 e2
    subst e1 e2
    refine ⟨a, dx, rfl, upd_same, fun H' f kd h' => ⟨rfl, ?_⟩⟩
    refine k H' _ (fun b o hb _ => ?_) ⟨a, C, dx, _, rfl, h', h1, h2, h3, ?_, ?_⟩
    · have nb : b ≠ a := ne_of_none hb ha
      exact f b o (by rw [upd_ne nb, upd_ne (ne_of_none hb hdx)]; exact hb) (by simp; exact nb)
    · with_unfolding_all rfl
    · with_unfolding_all rfl
  have mem : ∃ i, i < 17 ∧ opTab.getD i (Str.empty, 0) = (x, n) := by
    obtain ⟨i, hi, e⟩ := List.mem_iff_getElem.mp hx
    refine ⟨i, hi, ?_⟩
    rw [List.getD_eq_getElem?_getD, List.getElem?_eq_getElem hi, e]
    rfl
  obtain ⟨i, hi, ei⟩ := mem
  have ne : ∀ j, j < 17 → i ≠ j → ¬ x = (opTab.getD j (Str.empty, 0)).1 := fun j hj h => by
    have := no i hi j hj h
    rw [ei] at this
    exact this
  have eq : ∀ j, i = j → opTab.getD j (Str.empty, 0) = (x, n) := fun j h => by rw [← h]; exact ei
  by_cases z0 : i = 0
  · exact ⟨_, rfl, rfl, _, rfl, ifS (fun _ => fin _ "add" 2 T.l_Add T.n_Add_word T.n_Add_many (eq 0 z0).symm) fun q => absurd (congrArg Prod.fst (eq 0 z0)).symm q⟩
  refine ⟨_, rfl, rfl, _, rfl, ifS (fun q => absurd q (ne 0 (by decide) z0)) fun _ => ?_⟩
  by_cases z1 : i = 1
  · exact ⟨_, rfl, rfl, _, rfl, ifS (fun _ => fin _ "sub" 2 T.l_Sub T.n_Sub_word T.n_Sub_many (eq 1 z1).symm) fun q => absurd (congrArg Prod.fst (eq 1 z1)).symm q⟩
  refine ⟨_, rfl, rfl, _, rfl, ifS (fun q => absurd q (ne 1 (by decide) z1)) fun _ => ?_⟩
  by_cases z2 : i = 2
  · exact ⟨_, rfl, rfl, _, rfl, ifS (fun _ => fin _ "mul" 2 T.l_Mul T.n_Mul_word T.n_Mul_many (eq 2 z2).symm) fun q => absurd (congrArg Prod.fst (eq 2 z2)).symm q⟩
  refine ⟨_, rfl, rfl, _, rfl, ifS (fun q => absurd q (ne 2 (by decide) z2)) fun _ => ?_⟩
  by_cases z3 : i = 3
  · exact ⟨_, rfl, rfl, _, rfl, ifS (fun _ => fin _ "div" 2 T.l_Div T.n_Div_word T.n_Div_many (eq 3 z3).symm) fun q => absurd (congrArg Prod.fst (eq 3 z3)).symm q⟩
  refine ⟨_, rfl, rfl, _, rfl, ifS (fun q => absurd q (ne 3 (by decide) z3)) fun _ => ?_⟩
  by_cases z4 : i = 4
  · exact ⟨_, rfl, rfl, _, rfl, ifS (fun _ => fin _ "rem" 2 T.l_Rem T.n_Rem_word T.n_Rem_many (eq 4 z4).symm) fun q => absurd (congrArg Prod.fst (eq 4 z4)).symm q⟩
  refine ⟨_, rfl, rfl, _, rfl, ifS (fun q => absurd q (ne 4 (by decide) z4)) fun _ => ?_⟩
  by_cases z5 : i = 5
  · exact ⟨_, rfl, rfl, _, rfl, ifS (fun _ => fin _ "less" 2 T.l_Less T.n_Less_word T.n_Less_many (eq 5 z5).symm) fun q => absurd (congrArg Prod.fst (eq 5 z5)).symm q⟩
  refine ⟨_, rfl, rfl, _, rfl, ifS (fun q => absurd q (ne 5 (by decide) z5)) fun _ => ?_⟩
  by_cases z6 : i = 6
  · exact ⟨_, rfl, rfl, _, rfl, ifS (fun _ => fin _ "same" 2 T.l_Same T.n_Same_word T.n_Same_many (eq 6 z6).symm) fun q => absurd (congrArg Prod.fst (eq 6 z6)).symm q⟩
  refine ⟨_, rfl, rfl, _, rfl, ifS (fun q => absurd q (ne 6 (by decide) z6)) fun _ => ?_⟩
  by_cases z7 : i = 7
  · exact ⟨_, rfl, rfl, _, rfl, ifS (fun _ => fin _ "down" 1 T.l_Down T.n_Down_word T.n_Down_many (eq 7 z7).symm) fun q => absurd (congrArg Prod.fst (eq 7 z7)).symm q⟩
  refine ⟨_, rfl, rfl, _, rfl, ifS (fun q => absurd q (ne 7 (by decide) z7)) fun _ => ?_⟩
  by_cases z8 : i = 8
  · exact ⟨_, rfl, rfl, _, rfl, ifS (fun _ => fin _ "kind" 1 T.l_KindOf T.n_KindOf_word T.n_KindOf_many (eq 8 z8).symm) fun q => absurd (congrArg Prod.fst (eq 8 z8)).symm q⟩
  refine ⟨_, rfl, rfl, _, rfl, ifS (fun q => absurd q (ne 8 (by decide) z8)) fun _ => ?_⟩
  by_cases z9 : i = 9
  · exact ⟨_, rfl, rfl, _, rfl, ifS (fun _ => fin _ "front" 2 T.l_Front T.n_Front_word T.n_Front_many (eq 9 z9).symm) fun q => absurd (congrArg Prod.fst (eq 9 z9)).symm q⟩
  refine ⟨_, rfl, rfl, _, rfl, ifS (fun q => absurd q (ne 9 (by decide) z9)) fun _ => ?_⟩
  by_cases z10 : i = 10
  · exact ⟨_, rfl, rfl, _, rfl, ifS (fun _ => fin _ "head" 1 T.l_Head T.n_Head_word T.n_Head_many (eq 10 z10).symm) fun q => absurd (congrArg Prod.fst (eq 10 z10)).symm q⟩
  refine ⟨_, rfl, rfl, _, rfl, ifS (fun q => absurd q (ne 10 (by decide) z10)) fun _ => ?_⟩
  by_cases z11 : i = 11
  · exact ⟨_, rfl, rfl, _, rfl, ifS (fun _ => fin _ "rest" 1 T.l_Rest T.n_Rest_word T.n_Rest_many (eq 11 z11).symm) fun q => absurd (congrArg Prod.fst (eq 11 z11)).symm q⟩
  refine ⟨_, rfl, rfl, _, rfl, ifS (fun q => absurd q (ne 11 (by decide) z11)) fun _ => ?_⟩
  by_cases z12 : i = 12
  · exact ⟨_, rfl, rfl, _, rfl, ifS (fun _ => fin _ "many" 1 T.l_Many T.n_Many_word T.n_Many_many (eq 12 z12).symm) fun q => absurd (congrArg Prod.fst (eq 12 z12)).symm q⟩
  refine ⟨_, rfl, rfl, _, rfl, ifS (fun q => absurd q (ne 12 (by decide) z12)) fun _ => ?_⟩
  by_cases z13 : i = 13
  · exact ⟨_, rfl, rfl, _, rfl, ifS (fun _ => fin _ "item" 2 T.l_Item T.n_Item_word T.n_Item_many (eq 13 z13).symm) fun q => absurd (congrArg Prod.fst (eq 13 z13)).symm q⟩
  refine ⟨_, rfl, rfl, _, rfl, ifS (fun q => absurd q (ne 13 (by decide) z13)) fun _ => ?_⟩
  by_cases z14 : i = 14
  · exact ⟨_, rfl, rfl, _, rfl, ifS (fun _ => fin _ "put" 3 T.l_Put T.n_Put_word T.n_Put_many (eq 14 z14).symm) fun q => absurd (congrArg Prod.fst (eq 14 z14)).symm q⟩
  refine ⟨_, rfl, rfl, _, rfl, ifS (fun q => absurd q (ne 14 (by decide) z14)) fun _ => ?_⟩
  by_cases z15 : i = 15
  · exact ⟨_, rfl, rfl, _, rfl, ifS (fun _ => fin _ "field" 2 T.l_Field T.n_Field_word T.n_Field_many (eq 15 z15).symm) fun q => absurd (congrArg Prod.fst (eq 15 z15)).symm q⟩
  refine ⟨_, rfl, rfl, _, rfl, ifS (fun q => absurd q (ne 15 (by decide) z15)) fun _ => ?_⟩
  by_cases z16 : i = 16
  · exact ⟨_, rfl, rfl, _, rfl, ifS (fun _ => fin _ "set" 3 T.l_SetIn T.n_SetIn_word T.n_SetIn_many (eq 16 z16).symm) fun q => absurd (congrArg Prod.fst (eq 16 z16)).symm q⟩
  refine ⟨_, rfl, rfl, _, rfl, ifS (fun q => absurd q (ne 16 (by decide) z16)) fun _ => ?_⟩
  exfalso
  omega
end
end FK
/-! FKQ2 -/
set_option maxHeartbeats 400000
namespace FK
open PySem PySem.Spec PyProof.Rows L2
open TL (tl)
/-! ### rows -/
def rwF (p : Addr) (i : Int) : List (Str × V) := [("rows", .ref p), ("next_row", .int i)]
theorem rw_rows (p : Addr) (i : Int) : (rwF p i).lookup ("rows" : Str) = some (V.ref p) := by with_unfolding_all rfl
theorem rw_next (p : Addr) (i : Int) : (rwF p i).lookup ("next_row" : Str) = some (V.int i) := by with_unfolding_all rfl
theorem rw_put (p : Addr) (i m : Int) : putF "next_row" (.int m) (rwF p i) = rwF p m := by with_unfolding_all rfl
theorem rw_meths (p : Addr) (i : Int) : (rwF p i).lookup ("done" : Str) = none ∧ (rwF p i).lookup ("words" : Str) = none := by
  refine ⟨?_, ?_⟩ <;> with_unfolding_all rfl
def RWS (K : PySem.W.Frag) (H : Hp) (a p : Addr) (pre rest : List Str) : Prop :=
  (∀ x ∈ pre ++ rest, x.length ≤ 15000) ∧ (pre ++ rest).length ≤ 100000 ∧ ∃ dx, H a = some (.ins (He.ga K "Rows") dx (rwF p (pre.length : Int))) ∧ H p = some (.lst ((pre ++ rest).map V.str))
theorem RWS.keep {K : PySem.W.Frag} {S : List Addr} {H H' : Hp} {a p : Addr} {pre rest : List Str} (h : RWS K H a p pre rest) (f : Fr S H H') (n1 : a ∉ S) (n2 : p ∉ S) : RWS K H' a p pre rest := by
  obtain ⟨h1, h0, dx, h2, h3⟩ := h
  exact ⟨h1, h0, dx, f.at h2 n1, f.at h3 n2⟩
theorem RWS.soft {K : PySem.W.Frag} {H : Hp} {a p : Addr} {pre rest : List Str} (h : RWS K H a p pre rest) : Soft H a := by
  obtain ⟨h1, h0, dx, h2, h3⟩ := h
  exact soft_ins h2
theorem RWS.ne {K : PySem.W.Frag} {H : Hp} {a p : Addr} {pre rest : List Str} (h : RWS K H a p pre rest) : H a ≠ none ∧ H p ≠ none := by
  obtain ⟨h1, h0, dx, h2, h3⟩ := h
  rw [h2, h3]
  exact ⟨fun z => (by cases z), fun z => (by cases z)⟩
theorem RWS.imm {K : PySem.W.Frag} {H H' : Hp} {a p : Addr} {pre rest : List Str} (h : RWS K H a p pre rest) (f : Fr [a] H H') : Imm H H' := f.imm fun b m => by rw [List.mem_singleton.mp m]; exact h.soft
def spDone (K : PySem.W.Frag) : Sp := fun vs H Q _ => ∃ (a p : Addr) (pre rest : List Str), vs = [.ref a] ∧ RWS K H a p pre rest ∧ Q (.bl rest.isEmpty) H
def joinW (ws : List Str) : Str := Txt.join " " ws
def spWordsR (K : PySem.W.Frag) : Sp := fun vs H Q _ => ∃ (a pr : Addr) (pre rest ws : List Str), vs = [.ref a] ∧ RWS K H a pr pre (joinW ws :: rest) ∧ ws ≠ [] ∧ (∀ w ∈ ws, 32 ∉ tl w) ∧
  ∀ H' p pre', Fr [a] H H' → RWS K H' a pr pre' rest → H' p = some (.lst (ws.map V.str)) → H p = none → Q (.ref p) H'
def SrtA : Atom → Prop
  | .is d => Srt d
  | .of _ => True
def spNameOf : Sp := fun vs H Q _ => ∃ x : Str, vs = [.str x] ∧ IsName x ∧ Q (.str x) H
def spReadAtom : Sp := fun vs H Q _ => ∃ a : Atom, vs = [.str (atomT a)] ∧ WfAtom a ∧ SrtA a ∧ ∀ H' v, Fr [] H H' → Rep H' a.d v → Q v H'
def spReadAtoms : Sp := fun vs H Q _ => ∃ (p : Addr) (as : List Atom), vs = [.ref p] ∧ H p = some (.lst ((as.map atomT).map V.str)) ∧ as.length ≤ 1000 ∧ (∀ a ∈ as, WfAtom a ∧ SrtA a) ∧ ∀ H' v, Fr [] H H' → Rep H' (atomsD as) v → Q v H'
theorem not_name {d : D} (s : Srt d) : ¬ IsName (showD d) := fun h => by
  obtain ⟨c, r, e, hc⟩ := h.2.2.1
  have e2 : dT d = c :: r := e
  have g : ∀ c ∈ letters, 97 ≤ c ∧ c ≤ 122 := by decide
  have := g c hc
  cases s with
  | int i =>
    obtain ⟨c', r', e', h'⟩ := int_head i
    rw [dT_int, e'] at e2
    injection e2 with e3 e4
    omega
  | str x =>
    rw [dT_str] at e2
    injection e2 with e3 e4
    omega
  | tup h =>
    rw [dT_tup] at e2
    injection e2 with e3 e4
    omega
  | dct n h =>
    rw [dT_dct n] at e2
    injection e2 with e3 e4
    omega
section
variable {P : Program} {w : World} {K : PySem.W.Frag} {mg : Str → Option Value} {base : Heap}
theorem sc_Rows_done : FnScope ["self"] ["self"] (defScope s_Rows_done) := C8.fnScope_by (by decide +kernel)
theorem ok_done (T : TX K mg) : C8.Met P w K mg base 1 (He.ga K "Rows") "done" (spDone K) [] := by
  refine met_of T.f_Rows_done T.l_Rows T.t_Rows_done sc_Rows_done (fun _ _ _ _ _ _ us hl => match us, hl with | [_], _ => rfl) (fun vs H Q E h => ?_) (fun cdv A outer s H vs Q E hr h => ?_)
  · obtain ⟨a, p, pre, rest, rfl, _⟩ := h
    rfl
  obtain ⟨a, p, pre, rest, rfl, ⟨h1, h0, dx, h2, h3⟩, k⟩ := h
  refine ⟨_, (pss_one (ps_ret (pe_cmpR op_eq (pe_fld (pv 0) rfl) (pe_callB call_len_seq (by rfl) T.z_len (by decide +kernel) (pa_cons (pe_fld (pv 0) rfl) pa_nil)) (nomark _)))), ?_⟩
  refine ⟨_, rfl, a, _, dx, _, _, rfl, h2, T.l_Rows, T.n_Rows_next_row, rw_next _ _, _, rfl, a, _, dx, _, _, rfl, h2, T.l_Rows, T.n_Rows_rows, rw_rows _ _, p, _, rfl, .inl (SqL.of h3), rfl, ?_⟩
  have e : decide (V.int (pre.length : Int) = V.int (((pre ++ rest).map V.str).length : Int)) = rest.isEmpty := by
    rw [List.length_map, List.length_append]
    cases rest with
    | nil => exact decide_eq_true (by simp)
    | cons x r => exact decide_eq_false (fun z => by injection z with z; simp at z; omega)
  show Q (.bl (decide (V.int (pre.length : Int) = V.int (((pre ++ rest).map V.str).length : Int)))) H
  rw [e]
  exact k
theorem sc_Rows_words : FnScope ["self"] ["self"] (defScope s_Rows_words) := C8.fnScope_by (by decide +kernel)
theorem ok_words (T : TX K mg) : C8.Met P w K mg base 2 (He.ga K "Rows") "words" (spWordsR K) [] := by
  have m_done : C8.Met P w K mg base 1 (He.ga K "Rows") "done" (spDone K) [] := ok_done T
  refine met_of T.f_Rows_words T.l_Rows T.t_Rows_words sc_Rows_words (fun _ _ _ _ _ _ us hl => match us, hl with | [_], _ => rfl) (fun vs H Q E h => ?_) (fun cdv A outer s H vs Q E hr h => ?_)
  · obtain ⟨a, p, pre, rest, ws, rfl, _⟩ := h
    rfl
  obtain ⟨a, p, pre, rest, ws, rfl, hrw, hne, hws, k⟩ := h
  refine ⟨_, (pss_cons (ps_if (pt_val (C8.pe_mt0 m_done hr (by omega) (pv 0))) (pss_one ps_never) pss_nil)
      (pss_cons (ps_fld (pv 0) (pe_op op_add (pe_fld (pv 0) rfl) pe_int) rfl)
      (pss_one (ps_ret (pe_split (pe_ix (r := rIxL K) ix_list (pe_fld (pv 0) rfl) (pe_op op_sub (pe_fld (pv 0) rfl) pe_int) (fun _ _ => rfl)) pe_str))))), ?_⟩
  obtain ⟨h1, h0, dx, h2, h3⟩ := id hrw
  have npa : p ≠ a := fun z => by rw [z, h2] at h3; cases h3
  refine ⟨_, rfl, a, dx, _, rfl, h2, (rw_meths _ _).1, a, p, pre, _, rfl, hrw, _, rfl, iteF ?_⟩
  refine ⟨_, rfl, a, _, dx, _, _, rfl, h2, T.l_Rows, T.n_Rows_next_row, rw_next _ _, _, _, rfl, rfl, _, rfl, a, _, dx, _, rfl, h2, T.l_Rows, T.n_Rows_next_row, (by show 2 < 1000; decide), ?_⟩
  have ea : upd H a (.ins (He.ga K "Rows") dx (putF ("next_row" : Str) (V.int ((pre.length : Int) + 1)) (rwF p (pre.length : Int)))) a = some (.ins (He.ga K "Rows") dx (rwF p ((pre ++ [joinW ws]).length : Int))) := by
    rw [upd_same, show putF ("next_row" : Str) (V.int ((pre.length : Int) + 1)) (rwF p (pre.length : Int)) = rwF p ((pre.length : Int) + 1) from rw_put _ _ _, List.length_append]
    rfl
  have ep : upd H a (.ins (He.ga K "Rows") dx (putF ("next_row" : Str) (V.int ((pre.length : Int) + 1)) (rwF p (pre.length : Int)))) p = some (.lst ((pre ++ joinW ws :: rest).map V.str)) := (upd_ne npa).trans h3
  have f1 : Fr [a] H (upd H a (.ins (He.ga K "Rows") dx (putF ("next_row" : Str) (V.int ((pre.length : Int) + 1)) (rwF p (pre.length : Int))))) := Fr.put (by simp)
  generalize upd H a (.ins (He.ga K "Rows") dx (putF ("next_row" : Str) (V.int ((pre.length : Int) + 1)) (rwF p (pre.length : Int)))) = H1 at *
  have eat : atI ((pre ++ joinW ws :: rest).map V.str) (((pre ++ [joinW ws]).length : Int) - 1) = some (.str (joinW ws)) := by
    refine atI_get? (by rw [List.length_append]; show (0 : Int) ≤ ((pre.length + 1 : Nat) : Int) - 1; omega) ?_
    rw [List.length_append]
    have e : ((((pre.length + [joinW ws].length : Nat) : Int) - 1)).toNat = pre.length := by show (((pre.length + 1 : Nat) : Int) - 1).toNat = _; omega
    rw [e, List.getElem?_map, List.getElem?_append_right (Nat.le_refl _), Nat.sub_self]
    rfl
  have hl : (joinW ws).length ≤ 15000 := h1 _ (by simp)
  have es : Txt.split (joinW ws) " " = ws := TL.split_join (y := " ") (s := 32) (S := []) (by decide +kernel) (by decide +kernel) hne hws
  refine ⟨_, rfl, a, _, dx, _, _, rfl, ea, T.l_Rows, T.n_Rows_rows, rw_rows _ _, _, rfl, a, _, dx, _, _, rfl, ea, T.l_Rows, T.n_Rows_next_row, rw_next _ _, _, _, rfl, rfl, p, _, _, _, rfl, rfl, SqL.of ep, eat, ⟨_, rfl⟩, _, _, rfl, rfl, (by decide +kernel), Nat.le_trans (Nat.add_le_add_right hl 2) (by decide), fun q hq => ?_⟩
  have hq0 : H q = none := Fr.le f1 (fun b m => by rw [List.mem_singleton.mp m, ea]; exact fun z => by cases z) q hq
  refine k _ q (pre ++ [joinW ws]) (f1.trans (Fr.new hq)) ⟨?_, ?_, dx, ?_, ?_⟩ ?_ hq0
  · rw [List.append_assoc]; exact h1
  · rw [List.append_assoc]; exact h0
  · exact (Fr.new (S := []) hq).at ea
  · rw [List.append_assoc]; exact (Fr.new (S := []) hq).at ep
  · rw [upd_same, es]
theorem sc_name_of : FnScope ["word"] ["word"] (defScope s_name_of) := C8.fnScope_by (by decide +kernel)
theorem ok_name_of (T : TX K mg) : C8.Cal P w K mg base 3 "name_of" spNameOf [] := by
  have c_is_name : C8.Cal P w K mg base 2 "is_name" spIsName [] := ok_is_name T
  refine cal_of T.f_name_of T.g_name_of sc_name_of (fun _ _ _ _ _ _ us hl => match us, hl with | [_], _ => rfl) (fun vs H Q E h => ?_) (fun cdv A outer s H vs Q E hr h => ?_)
  · obtain ⟨x, rfl, _⟩ := h
    rfl
  obtain ⟨x, rfl, hx, k⟩ := h
  refine ⟨_, (pss_cons (ps_if (pt_not (pt_val (C8.pe_c c_is_name hr (by omega) (by rfl) (pa_cons (pv 0) pa_nil)))) (pss_one ps_never) pss_nil)
      (pss_one (ps_ret (pv 0)))), ?_⟩
  refine ⟨_, rfl, x, rfl, sl_le (by have := hx.2.1; omega), fun b hb => ⟨_, rfl, ?_⟩⟩
  rw [hb.mpr hx]
  exact iteF ⟨_, rfl, k⟩
theorem sc_read_atom : FnScope ["word"] ["word"] (defScope s_read_atom) := C8.fnScope_by (by decide +kernel)
theorem ok_read_atom (T : TX K mg) : C8.Cal P w K mg base 126 "read_atom" spReadAtom [] := by
  have c_is_name : C8.Cal P w K mg base 2 "is_name" spIsName [] := ok_is_name T
  have c_read_value : C8.Cal P w K mg base 125 "read_value" spReadVal [] := ok_read_value T
  refine cal_of T.f_read_atom T.g_read_atom sc_read_atom (fun _ _ _ _ _ _ us hl => match us, hl with | [_], _ => rfl) (fun vs H Q E h => ?_) (fun cdv A outer s H vs Q E hr h => ?_)
  · obtain ⟨x, rfl, _⟩ := h
    rfl
  obtain ⟨a, rfl, hw, hs, k⟩ := h
  refine ⟨_, (pss_cons (ps_if (pt_val (C8.pe_c c_is_name hr (by omega) (by rfl) (pa_cons (pv 0) pa_nil))) (pss_one (ps_ret (pe_tup (pa_cons pe_str (pa_cons (pv 0) pa_nil))))) pss_nil)
      (pss_one (ps_ret (pe_tup (pa_cons pe_str (pa_cons (C8.pe_c c_read_value hr (by omega) (by rfl) (pa_cons (pv 0) pa_nil)) pa_nil)))))), ?_⟩
  refine ⟨_, rfl, atomT a, rfl, Nat.le_trans (atomT_len hw) (by decide), fun b hb => ⟨_, rfl, ?_⟩⟩
  cases a with
  | of x =>
    rw [hb.mpr hw]
    exact iteT ⟨_, rfl, sl2, fun p hp => k _ _ (Fr.new hp) (rep_new hp (.cons .str (.one .str)))⟩
  | is d =>
    cases b with
    | true => exact absurd (hb.mp rfl) (not_name hs)
    | false => exact iteF ⟨_, rfl, d, rfl, hw.1, hs, hw.2, fun H' v f rv => ⟨sl2, fun p hp => k _ _ (f.trans (Fr.new hp)) (rep_new hp (.cons .str (.one rv)))⟩⟩
theorem sc_read_atoms : FnScope ["words", "word"] ["words"] (defScope s_read_atoms) := C8.fnScope_by (by decide +kernel)
theorem ok_read_atoms (T : TX K mg) : C8.Cal P w K mg base 127 "read_atoms" spReadAtoms [] := by
  have c_read_atom : C8.Cal P w K mg base 126 "read_atom" spReadAtom [] := ok_read_atom T
  refine cal_of T.f_read_atoms T.g_read_atoms sc_read_atoms (fun _ _ _ _ _ _ us hl => match us, hl with | [_], _ => rfl) (fun vs H Q E h => ?_) (fun cdv A outer s H vs Q E hr h => ?_)
  · obtain ⟨p, as, rfl, _⟩ := h
    rfl
  obtain ⟨p, as, rfl, hp, hl, hw, k⟩ := h
  refine ⟨_, (pss_one (ps_ret (pe_callTy call_tuple_of (by rfl) T.z_tuple (by decide +kernel) (pa_cons (pe_lc (own := [("word", 1)]) (by rfl) sc_read_atoms.nd (pi_list (pv 0)) (blkOk_by (own := [("word", 1)]) (N := ["words", "word"]) (sc := defScope s_read_atoms) (by decide +kernel)) (fun _ _ _ _ _ => (pg_name (i := 1) sc_read_atoms.nd rfl (by first | exact Or.inl rfl | exact Or.inr rfl))) (fun _ _ _ _ _ => pts_nil) (fun _ _ _ _ _ => (C8.pe_c c_read_atom hr (by omega) (by rfl) (pa_cons (pv 1) pa_nil)))) pa_nil)))), ?_⟩
  refine ⟨_, rfl, p, rfl, ⟨_, SqL.of hp⟩, fun C hC => ?_⟩
  refine lc_list (K := K) (a := p) (xs := (as.map atomT).map V.str) (fun i H1 => Fr [] H H1 ∧ ∃ xs, H1 C = some (.lst xs) ∧ RepL H1 ((as.take i).map Atom.d) xs) ⟨Fr.new hC, [], upd_same, RepL.nil⟩ (fun i H1 _ ⟨g1, _⟩ => SqL.of (g1.at hp)) (fun i x H1 hi ⟨g1, xs, g2, g3⟩ => ?_) (fun H1 ⟨g1, xs, g2, g3⟩ => ?_)
  · rw [List.getElem?_map, List.getElem?_map] at hi
    obtain ⟨z, hz, rfl⟩ := Option.map_eq_some_iff.mp hi
    obtain ⟨y, hy, rfl⟩ := Option.map_eq_some_iff.mp hz
    obtain ⟨w1, w2⟩ := hw y (List.mem_of_getElem? hy)
    refine ⟨rfl, _, rfl, y, rfl, w1, w2, fun H2 v f2 rv => ⟨xs, f2.at g2, ?_, (g1.trans f2).put_new hC, _, upd_same, ?_⟩⟩
    · rw [g3.length, List.length_map, List.length_take]
      exact sl_lt (by omega)
    · rw [take_snoc hy, List.map_append]
      exact ((g3.mono f2.imm0).snoc rv).mono (imm_upd (soft_lst (f2.at g2)))
  · rw [List.length_map, List.length_map, List.take_length] at g3
    exact ⟨C, xs, rfl, .inl ⟨SqL.of g2, fun t ht => k _ _ (g1.trans (Fr.new ht)) (rep_new ht g3)⟩⟩
end
end FK
/-! FKQ3 -/
set_option maxHeartbeats 400000
namespace FK
open PySem PySem.Spec PyProof.Rows L2
open TL (tl)
def stepW : Step → List Str
  | .let_ n op as => [n, "=", op] ++ as.map atomT
  | .call n f as => [n, "=", "call", f] ++ as.map atomT
def SrtS : Step → Prop
  | .let_ _ _ as => ∀ a ∈ as, SrtA a
  | .call _ _ as => ∀ a ∈ as, SrtA a
theorem cut_drop {xs : List V} {n : Nat} (h : n ≤ xs.length) : cutV xs (some (n : Int)) none = xs.drop n := by
  unfold cutV
  have e0 : HT.sIx xs.length 0 (some (n : Int)) = n := by
    show (if (n : Int) < 0 then ((n : Int) + (xs.length : Int)).toNat else min (n : Int).toNat xs.length) = _
    rw [if_neg (by omega)]
    omega
  rw [e0]
  show (xs.drop n).take (xs.length - n) = _
  rw [List.take_of_length_le (by rw [List.length_drop]; exact Nat.le_refl _)]
def spReadStep : Sp := fun vs H Q _ => ∃ (p : Addr) (s : Step), vs = [.ref p] ∧ H p = some (.lst ((stepW s).map V.str)) ∧ WfStep s ∧ SrtS s ∧ ∀ H' v, Fr [] H H' → Rep H' s.d v → Q v H'
theorem op_call : ∀ p ∈ opTab, ¬ p.1 = "call" := by decide +kernel
section
variable {P : Program} {w : World} {K : PySem.W.Frag} {mg : Str → Option Value} {base : Heap}
theorem sc_read_step : FnScope ["words", "name", "atoms", "op"] ["words"] (defScope s_read_step) := C8.fnScope_by (by decide +kernel)
theorem ok_read_step (T : TX K mg) : C8.Cal P w K mg base 128 "read_step" spReadStep [] := by
  have c_name_of : C8.Cal P w K mg base 3 "name_of" spNameOf [] := ok_name_of T
  have c_read_atoms : C8.Cal P w K mg base 127 "read_atoms" spReadAtoms [] := ok_read_atoms T
  have c_op_of : C8.Cal P w K mg base 4 "op_of" (spOpOf K) [] := ok_op_of T
  refine cal_of T.f_read_step T.g_read_step sc_read_step (fun _ _ _ _ _ _ us hl => match us, hl with | [_], _ => rfl) (fun vs H Q E h => ?_) (fun cdv A outer s H vs Q E hr h => ?_)
  · obtain ⟨p, s, rfl, _⟩ := h
    rfl
  obtain ⟨p, s, rfl, hp, hw, hs, k⟩ := h
  refine ⟨_, (pss_cons (ps_set (i := 1) sc_read_step.nd rfl (by first | exact Or.inl rfl | exact Or.inr rfl) (C8.pe_c c_name_of hr (by omega) (by rfl) (pa_cons (pe_ix (r := rIxL K) ix_list (pv 0) pe_int (fun _ _ => rfl)) pa_nil)))
      (pss_cons (ps_if (pt_cmpR op_eq (pe_ix (r := rIxL K) ix_list (pv 0) pe_int (fun _ _ => rfl)) pe_str (nomark _)) (pss_cons (ps_if (pt_cmpR op_lt (pe_callB call_len_seq (by rfl) T.z_len (by decide +kernel) (pa_cons (pv 0) pa_nil)) pe_int (nomark _)) (pss_one ps_never) pss_nil)
      (pss_one (ps_ret (pe_tup (pa_cons pe_str (pa_cons (pv 1) (pa_cons (C8.pe_c c_name_of hr (by omega) (by rfl) (pa_cons (pe_ix (r := rIxL K) ix_list (pv 0) pe_int (fun _ _ => rfl)) pa_nil)) (pa_cons (C8.pe_c c_read_atoms hr (by omega) (by rfl) (pa_cons (pe_slice sl_list (pv 0) (po_some pe_int) po_none) pa_nil)) pa_nil)))))))) pss_nil)
      (pss_cons (ps_try_thru0 (pss_one (ps_set (i := 3) sc_read_step.nd rfl (by first | exact Or.inl rfl | exact Or.inr rfl) (C8.pe_c c_op_of hr (by omega) (by rfl) (pa_cons (pe_ix (r := rIxL K) ix_list (pv 0) pe_int (fun _ _ => rfl)) pa_nil)))))
      (pss_cons (ps_set (i := 2) sc_read_step.nd rfl (by first | exact Or.inl rfl | exact Or.inr rfl) (C8.pe_c c_read_atoms hr (by omega) (by rfl) (pa_cons (pe_slice sl_list (pv 0) (po_some pe_int) po_none) pa_nil)))
      (pss_cons (ps_if (pt_cmpR op_ne (pe_callB call_len_seq (by rfl) T.z_len (by decide +kernel) (pa_cons (pv 2) pa_nil)) (pe_fld (pv 3) rfl) (nomark _)) (pss_one ps_never) pss_nil)
      (pss_one (ps_ret (pe_tup (pa_cons pe_str (pa_cons (pv 1) (pa_cons (pe_fld (pv 3) rfl) (pa_cons (pv 2) pa_nil)))))))))))), ?_⟩
  cases s with
  | let_ n op as =>
    obtain ⟨w1, w2, w3⟩ := hw
    have o3 := (op_len _ w2).2
    have o3' : as.length ≤ 3 := o3
    refine ⟨_, rfl, p, _, 0, _, rfl, rfl, SqL.of hp, atI_get? (by decide) rfl, n, rfl, w1, ?_⟩
    refine ⟨_, rfl, p, _, 2, _, rfl, rfl, SqL.of hp, atI_get? (by decide) rfl, rfl, _, rfl, no_S (op_call _ w2) ?_⟩
    refine ⟨_, rfl, p, _, 2, _, rfl, rfl, SqL.of hp, atI_get? (by decide) rfl, op, as.length, rfl, w2, fun H1 v f1 ob => ?_⟩
    obtain ⟨a, C, dx, fs, rfl, ha, hc, n1, n2, l1, l2⟩ := ob
    have hp1 := f1.at hp
    have ec : ∀ HH : Hp, ∀ q, upd HH q (.lst (cutV ((stepW (.let_ n op as)).map V.str) (some 3) none)) q = some (.lst ((as.map atomT).map V.str)) := fun HH q => by
      rw [upd_same, show (some (3 : Int)) = some ((3 : Nat) : Int) from rfl, cut_drop (by show 3 ≤ (List.map V.str ([n, "=", op] ++ as.map atomT)).length; simp)]
      rfl
    refine ⟨_, rfl, 3, rfl, p, _, rfl, SqL.of hp1, fun q hq => ⟨q, as, rfl, ec _ _, by omega, fun a ha => ⟨w3 a ha, hs a ha⟩, fun H2 va f2 ra => ?_⟩⟩
    have ha2 := ((Fr.new (S := []) hq).trans f2).at ha
    obtain ⟨ta, xs, rfl, hta, hxs⟩ := ra.t
    have xl : xs.length = as.length := by rw [hxs.length, List.length_map]
    refine ⟨_, rfl, ta, _, rfl, .inr (sqT_of hta), _, rfl, a, C, dx, fs, _, rfl, ha2, hc, n2, l2, rfl, _, rfl, ifNI (fun ne => absurd (by rw [xl]) ne) fun _ => ?_⟩
    exact ⟨_, rfl, _, rfl, a, C, dx, fs, _, rfl, ha2, hc, n1, l1, _, rfl, sl4, fun t ht => k _ _ (f1.trans ((Fr.new hq).trans (f2.trans (Fr.new ht)))) (rep_new ht (.cons .str (.cons .str (.cons .str (.one (rep_tup.mpr ⟨ta, xs, rfl, hta, hxs⟩))))))⟩
  | call n f as =>
    obtain ⟨w1, w2, w4, w3⟩ := hw
    refine ⟨_, rfl, p, _, 0, _, rfl, rfl, SqL.of hp, atI_get? (by decide) rfl, n, rfl, w1, ?_⟩
    refine ⟨_, rfl, p, _, 2, _, rfl, rfl, SqL.of hp, atI_get? (by decide) rfl, rfl, _, rfl, yes_S ?_⟩
    have ec : ∀ HH : Hp, ∀ q, upd HH q (.lst (cutV ((stepW (.call n f as)).map V.str) (some 4) none)) q = some (.lst ((as.map atomT).map V.str)) := fun HH q => by
      rw [upd_same, show (some (4 : Int)) = some ((4 : Nat) : Int) from rfl, cut_drop (by show 4 ≤ (List.map V.str ([n, "=", "call", f] ++ as.map atomT)).length; simp)]
      rfl
    refine ⟨_, rfl, p, _, rfl, .inl (SqL.of hp), _, _, rfl, rfl, _, rfl, ifB (fun q => absurd q (by rw [List.length_map]; show ¬ (([n, "=", "call", f] ++ as.map atomT).length : Int) < 4; simp; omega)) fun _ => ?_⟩
    refine ⟨_, rfl, _, rfl, p, _, 3, _, rfl, rfl, SqL.of hp, atI_get? (by decide) rfl, f, rfl, w2, _, rfl, 4, rfl, p, _, rfl, SqL.of hp, fun q hq => ⟨q, as, rfl, ec _ _, by omega, fun a ha => ⟨w3 a ha, hs a ha⟩, fun H2 va f2 ra => ⟨sl4, fun t ht => k _ _ ((Fr.new hq).trans (f2.trans (Fr.new ht))) (rep_new ht (.cons .str (.cons .str (.cons .str (.one ra)))))⟩⟩⟩
end
end FK
/-! FKQ4 -/
set_option maxHeartbeats 400000
namespace FK
open PySem PySem.Spec PyProof.Rows L2
open TL (tl)
/-! ### no spaces in words -/
theorem joinL_mem {S : List Nat} {c : Nat} : ∀ {ps : List (List Nat)}, c ∈ TL.joinL S ps → c ∈ S ∨ ∃ p ∈ ps, c ∈ p
  | [], h => by cases h
  | [p], h => .inr ⟨p, List.mem_cons_self, h⟩
  | p :: q :: r, h => by
    have h2 : c ∈ p ++ (S ++ TL.joinL S (q :: r)) := h
    rcases List.mem_append.mp h2 with h2 | h2
    · exact .inr ⟨p, List.mem_cons_self, h2⟩
    rcases List.mem_append.mp h2 with h2 | h2
    · exact .inl h2
    rcases joinL_mem h2 with h2 | ⟨x, hx, h2⟩
    · exact .inl h2
    · exact .inr ⟨x, List.mem_cons_of_mem _ hx, h2⟩
theorem word_ge {x : Str} (h : IsWord x) : ∀ c ∈ tl x, 33 ≤ c := fun c hc => by
  have g : ∀ c ∈ letters, 33 ≤ c := by decide
  exact g c (h.2.2 c hc)
theorem name_ge {x : Str} (h : IsName x) : ∀ c ∈ tl x, 33 ≤ c := fun c hc => by
  have g : ∀ c ∈ letters ++ figures, 33 ≤ c := by decide
  exact g c (h.2.2.2 c hc)
theorem show_ge {d : D} (w : WfD d) : ∀ c ∈ tl (showD d), 33 ≤ c := by
  obtain ⟨t1, t2, t3, t4, t5, t6, t7⟩ := tl_lits
  induction d using D.ind with
  | int i =>
    intro c hc
    have e : tl (showD (.int i)) = tl (intS i) := dT_int i
    rw [e] at hc
    have g : ∀ n, ∀ c ∈ TL.numL n, 33 ≤ c := fun n c hc => by have := TL.numL_digits n c hc; omega
    cases i with
    | ofNat n =>
      rw [show tl (intS (Int.ofNat n)) = TL.numL n from tl_nat n] at hc
      exact g n c hc
    | negSucc n =>
      rw [show tl (intS (Int.negSucc n)) = 45 :: TL.numL (n + 1) from tl_neg n] at hc
      rcases List.mem_cons.mp hc with z | hc
      · omega
      · exact g _ c hc
  | str x =>
    cases w with
    | str w =>
    intro c hc
    rw [show tl (showD (.str x)) = 39 :: tl x from dT_str x] at hc
    rcases List.mem_cons.mp hc with z | hc
    · omega
    · exact word_ge w c hc
  | tup l ih =>
    cases w with
    | tup w =>
    intro c hc
    rw [showD_tup, tl_app, tl_app, tl_join, t1, t2, t3, showL_eq, List.map_map] at hc
    rcases List.mem_append.mp hc with hc | hc
    · rcases List.mem_append.mp hc with hc | hc
      · rw [List.mem_singleton.mp hc]; decide
      · rcases joinL_mem hc with hc | ⟨p, hp, hc⟩
        · rw [List.mem_singleton.mp hc]; decide
        · obtain ⟨d, hd, rfl⟩ := List.mem_map.mp hp
          exact ih d hd (w d hd) c hc
    · rw [List.mem_singleton.mp hc]; decide
  | dct l ih =>
    cases w with
    | dct n wd w =>
    intro c hc
    rw [showD_dct, tl_app, tl_app, tl_join, t1, t4, t5, List.map_map] at hc
    rcases List.mem_append.mp hc with hc | hc
    · rcases List.mem_append.mp hc with hc | hc
      · rw [List.mem_singleton.mp hc]; decide
      · rcases joinL_mem hc with hc | ⟨p, hp, hc⟩
        · rw [List.mem_singleton.mp hc]; decide
        · obtain ⟨q, hq, rfl⟩ := List.mem_map.mp hp
          rw [sortK_mem, showK_eq] at hq
          obtain ⟨q2, hq2, rfl⟩ := List.mem_map.mp hq
          have hc2 : c ∈ tl (q2.1 ++ (":" : Str) ++ showD q2.2) := hc
          rw [tl_app, tl_app, t6] at hc2
          rcases List.mem_append.mp hc2 with hc2 | hc2
          · rcases List.mem_append.mp hc2 with hc2 | hc2
            · exact word_ge (wd q2 hq2) c hc2
            · rw [List.mem_singleton.mp hc2]; decide
          · exact ih q2 hq2 (w q2 hq2) c hc2
    · rw [List.mem_singleton.mp hc]; decide
def Clean (ws : List Str) : Prop := ∀ w ∈ ws, ∀ c ∈ tl w, 33 ≤ c
theorem Clean.no32 {ws : List Str} (h : Clean ws) : ∀ w ∈ ws, 32 ∉ tl w := fun w hw hc => by have := h w hw 32 hc; omega
theorem atom_ge {a : Atom} (h : WfAtom a) : ∀ c ∈ tl (atomT a), 33 ≤ c := by
  cases a with
  | of n => exact name_ge h
  | is d => exact show_ge h.1
theorem clean_lits : Clean ["=", "call", "give", "go", "fail", "if", "else", "end", "fun"] := by
  unfold Clean
  decide +kernel
theorem clean_ops : Clean (opTab.map (·.1)) := by
  unfold Clean
  decide +kernel
theorem clean_app {ws xs : List Str} (h : Clean ws) (g : Clean xs) : Clean (ws ++ xs) := fun w hw => by
  rcases List.mem_append.mp hw with hw | hw
  · exact h w hw
  · exact g w hw
theorem clean_cons {x : Str} {xs : List Str} (h : ∀ c ∈ tl x, 33 ≤ c) (g : Clean xs) : Clean (x :: xs) := fun w hw => by
  rcases List.mem_cons.mp hw with e | hw
  · rw [e]; exact h
  · exact g w hw
theorem clean_nil : Clean [] := fun w hw => by cases hw
theorem clean_atoms {as : List Atom} (h : ∀ a ∈ as, WfAtom a) : Clean (as.map atomT) := fun w hw => by
  obtain ⟨a, ha, rfl⟩ := List.mem_map.mp hw
  exact atom_ge (h a ha)
theorem clean_step {s : Step} (h : WfStep s) : Clean (stepW s) := by
  cases s with
  | let_ n op as =>
    obtain ⟨h1, h2, h3⟩ := h
    exact clean_cons (name_ge h1) (clean_cons (clean_lits _ (by simp)) (clean_cons (clean_ops _ (List.mem_map.mpr ⟨_, h2, rfl⟩)) (clean_atoms h3)))
  | call n f as =>
    obtain ⟨h1, h2, h4, h3⟩ := h
    exact clean_cons (name_ge h1) (clean_cons (clean_lits _ (by simp)) (clean_cons (clean_lits _ (by simp)) (clean_cons (name_ge h2) (clean_atoms h3))))
/-! ### a block's rows -/
def leafW : Leaf → List Str
  | .give a => [("give" : Str)] ++ [a].map atomT
  | .go f as => [("go" : Str), f] ++ as.map atomT
  | .fail w => [("fail" : Str), w]
def endW : Block → List Str
  | .leaf _ e => leafW e
  | .iff _ a _ _ => [("if" : Str)] ++ [a].map atomT
def endRest : Block → List Str
  | .leaf _ _ => []
  | .iff _ _ b c => rowsB b ++ [("else" : Str)] ++ rowsB c ++ [("end" : Str)]
theorem step_join (s : Step) : stepT s = joinW (stepW s) := by cases s <;> rfl
theorem fail_join (w : Str) : ("fail " : Str) ++ w = joinW ["fail", w] := by
  refine str_eq ?_
  unfold joinW
  rw [tl_join, tl_app]
  show tl ("fail " : Str) ++ tl w = tl ("fail" : Str) ++ (tl (" " : Str) ++ tl w)
  have e : tl ("fail " : Str) = tl ("fail" : Str) ++ tl (" " : Str) := by decide +kernel
  rw [e, List.append_assoc]
theorem leaf_join (e : Leaf) : leafT e = joinW (leafW e) := by
  cases e with
  | give a => rfl
  | go f as => rfl
  | fail w => exact fail_join w
theorem rows_split (b : Block) : rowsB b = b.ss.map stepT ++ joinW (endW b) :: endRest b := by
  cases b with
  | leaf ss e => rw [rowsB, leaf_join]; rfl
  | iff ss a b c =>
    rw [rowsB]
    simp only [List.append_assoc, List.cons_append, List.nil_append, endRest]
    rfl
theorem clean_leaf {e : Leaf} (h : WfLeaf e) : Clean (leafW e) := by
  cases e with
  | give a => exact clean_cons (clean_lits _ (by simp)) (clean_atoms fun x hx => by rw [List.mem_singleton.mp hx]; exact h)
  | go f as => exact clean_cons (clean_lits _ (by simp)) (clean_cons (name_ge h.1) (clean_atoms h.2.2))
  | fail w => exact clean_cons (clean_lits _ (by simp)) (clean_cons (word_ge h) clean_nil)
theorem clean_end {b : Block} (h : WfB b) : Clean (endW b) := by
  cases b with
  | leaf ss e => exact clean_leaf h.2
  | iff ss a b c => exact clean_cons (clean_lits _ (by simp)) (clean_atoms fun x hx => by rw [List.mem_singleton.mp hx]; exact h.2.1)
def SrtE : Leaf → Prop
  | .give a => SrtA a
  | .go _ as => ∀ a ∈ as, SrtA a
  | .fail _ => True
def SrtB : Block → Prop
  | .leaf ss e => (∀ s ∈ ss, SrtS s) ∧ SrtE e
  | .iff ss a b c => (∀ s ∈ ss, SrtS s) ∧ SrtA a ∧ SrtB b ∧ SrtB c
end FK
/-! FKQ5 -/
set_option maxHeartbeats 400000
namespace FK
open PySem PySem.Spec PyProof.Rows L2
open TL (tl)
/-! ### blocks -/
theorem iteNF {c : Bool} {A B : Prop} (h : c = true) (b : B) : if (!c) = true then A else B := by
  rw [h]
  exact iteF b
def spReadEnd (K : PySem.W.Frag) (n : Nat) : Sp := fun vs H Q _ => ∃ (pw a pr : Addr) (b : Block) (pre post : List Str), vs = [.ref pw, .ref a, .int (8 - (n : Int))] ∧ n ≤ 8 ∧ H pw = some (.lst ((endW b).map V.str)) ∧ RWS K H a pr pre (endRest b ++ post) ∧ WfB b ∧ SrtB b ∧ ifsB b ≤ n ∧
  ∀ H' v pre', Fr [a] H H' → RWS K H' a pr pre' post → Rep H' b.eD v → Q v H'
def spReadBlock (K : PySem.W.Frag) (n : Nat) : Sp := fun vs H Q _ => ∃ (a pr : Addr) (b : Block) (pre post : List Str), vs = [.ref a, .int (8 - (n : Int))] ∧ n ≤ 8 ∧ RWS K H a pr pre (rowsB b ++ post) ∧ WfB b ∧ SrtB b ∧ ifsB b ≤ n ∧
  ∀ H' v pre', Fr [a] H H' → RWS K H' a pr pre' post → Rep H' b.d v → Q v H'
def spReadIf (K : PySem.W.Frag) : Nat → Sp
  | 0 => fun _ _ _ _ => False
  | n + 1 => fun vs H Q _ => ∃ (pw a pr : Addr) (t : Atom) (b c : Block) (pre post : List Str), vs = [.ref pw, .ref a, .int (8 - ((n + 1 : Nat) : Int))] ∧ n + 1 ≤ 8 ∧ H pw = some (.lst (([("if" : Str)] ++ [t].map atomT).map V.str)) ∧
    RWS K H a pr pre (rowsB b ++ (("else" : Str) :: (rowsB c ++ (("end" : Str) :: post)))) ∧ WfAtom t ∧ SrtA t ∧ WfB b ∧ SrtB b ∧ ifsB b ≤ n ∧ WfB c ∧ SrtB c ∧ ifsB c ≤ n ∧
    ∀ H' v pre', Fr [a] H H' → RWS K H' a pr pre' post → Rep H' (.tup [.str "if", t.d, b.d, c.d]) v → Q v H'
section
variable {P : Program} {w : World} {K : PySem.W.Frag} {mg : Str → Option Value} {base : Heap}
theorem sc_read_if : FnScope ["words", "rows", "depth", "atom", "first", "second"] ["words", "rows", "depth"] (defScope s_read_if) := C8.fnScope_by (by decide +kernel)
theorem ok_read_if (T : TX K mg) {n k : Nat} (hk : 126 ≤ k) (c_read_block : C8.Cal P w K mg base k "read_block" (spReadBlock K n) []) : C8.Cal P w K mg base (k + 1) "read_if" (spReadIf K (n + 1)) [] := by
  have c_read_atom : C8.Cal P w K mg base 126 "read_atom" spReadAtom [] := ok_read_atom T
  have m_words : C8.Met P w K mg base 2 (He.ga K "Rows") "words" (spWordsR K) [] := ok_words T
  refine cal_of T.f_read_if T.g_read_if sc_read_if (fun _ _ _ _ _ _ us hl => match us, hl with | [_, _, _], _ => rfl) (fun vs H Q E h => ?_) (fun cdv A outer s H vs Q E hr h => ?_)
  · obtain ⟨pw, a, pr, t, b, c, pre, post, rfl, _⟩ := h
    rfl
  obtain ⟨pw, a, pr, t, b, c, pre, post, rfl, hn8, hpw, hrw, wt, st, wb, sb, ib, wc, sc, ic, kk⟩ := h
  refine ⟨_, (pss_cons (ps_if (pt_cmpR op_eq (pv 2) (C8.pe_gc (by rfl) T.c_MOST_IFS) (nomark _)) (pss_one ps_never) pss_nil)
      (pss_cons (ps_set (i := 3) sc_read_if.nd rfl (by first | exact Or.inl rfl | exact Or.inr rfl) (C8.pe_c c_read_atom hr (by omega) (by rfl) (pa_cons (pe_ix (r := rIxL K) ix_list (pv 0) pe_int (fun _ _ => rfl)) pa_nil)))
      (pss_cons (ps_set (i := 4) sc_read_if.nd rfl (by first | exact Or.inl rfl | exact Or.inr rfl) (C8.pe_c c_read_block hr (by omega) (by rfl) (pa_cons (pv 1) (pa_cons (pe_op op_add (pv 2) pe_int) pa_nil))))
      (pss_cons (ps_if (pt_cmpR (op_neD hr.units) (C8.pe_mt0 m_words hr (by omega) (pv 1)) (pe_lst (pa_cons pe_str pa_nil)) (nomark _)) (pss_one ps_never) pss_nil)
      (pss_cons (ps_set (i := 5) sc_read_if.nd rfl (by first | exact Or.inl rfl | exact Or.inr rfl) (C8.pe_c c_read_block hr (by omega) (by rfl) (pa_cons (pv 1) (pa_cons (pe_op op_add (pv 2) pe_int) pa_nil))))
      (pss_cons (ps_if (pt_cmpR (op_neD hr.units) (C8.pe_mt0 m_words hr (by omega) (pv 1)) (pe_lst (pa_cons pe_str pa_nil)) (nomark _)) (pss_one ps_never) pss_nil)
      (pss_one (ps_ret (pe_tup (pa_cons pe_str (pa_cons (pv 3) (pa_cons (pv 4) (pa_cons (pv 5) pa_nil))))))))))))), ?_⟩
  have e0 : (8 : Int) - ((n + 1 : Nat) : Int) + 1 = 8 - (n : Int) := by omega
  refine ⟨_, rfl, rfl, _, rfl, ifI (fun q => absurd q (by omega)) fun _ => ?_⟩
  refine ⟨_, rfl, pw, _, 1, _, rfl, rfl, SqL.of hpw, atI_get? (by decide) rfl, t, rfl, wt, st, fun H1 va f1 ra => ?_⟩
  have rw1 := hrw.keep f1 (by simp) (by simp)
  refine ⟨_, rfl, _, rfl, _, _, rfl, rfl, a, pr, b, pre, _, congrArg (fun z => [V.ref a, V.int z]) e0, by omega, rw1, wb, sb, ib, fun H2 vb pre2 f2 rw2 rb => ?_⟩
  obtain ⟨h21, h20, dx2, h22, h23⟩ := id rw2
  refine ⟨_, rfl, a, dx2, _, rfl, h22, (rw_meths _ _).2, a, pr, pre2, _, ["else"], rfl, rw2, (fun z => by cases z), Clean.no32 (ws := ["else"]) (fun x hx => clean_lits x (by rw [List.mem_singleton.mp hx]; simp)), fun H3 p3 pre3 f3 rw3 hp3 hp2 => ⟨sl1, fun q3 hq3 => ?_⟩⟩
  have l3 := (Fr.new (S := []) (o := .lst [V.str "else"]) hq3).at hp3
  refine ⟨.list [.str "else"], .list [.str "else"], .lst (SqL.of l3) (.cons (.str _) .nil), .lst (SqL.of upd_same) (.cons (.str _) .nil), (by decide +kernel), (by decide +kernel), _, rfl, iteNF (by decide +kernel) ?_⟩
  have rw4 := rw3.keep (S := []) (Fr.new (o := .lst [V.str "else"]) hq3) (by simp) (by simp)
  have i13 : Imm H1 (upd H3 q3 (.lst [V.str "else"])) := (rw1.imm f2).trans ((rw2.imm f3).trans (imm_upd (soft_none hq3)))
  have i23 : Imm H2 (upd H3 q3 (.lst [V.str "else"])) := (rw2.imm f3).trans (imm_upd (soft_none hq3))
  have f04 : Fr [a] H (upd H3 q3 (.lst [V.str "else"])) := (Fr.mono f1 (by simp)).trans (f2.trans (f3.trans (Fr.new hq3)))
  generalize upd H3 q3 (.lst [V.str "else"]) = H4 at *
  refine ⟨_, rfl, _, rfl, _, _, rfl, rfl, a, pr, c, pre3, _, congrArg (fun z => [V.ref a, V.int z]) e0, by omega, rw4, wc, sc, ic, fun H5 vc pre5 f5 rw5 rc => ?_⟩
  obtain ⟨h51, h50, dx5, h52, h53⟩ := id rw5
  refine ⟨_, rfl, a, dx5, _, rfl, h52, (rw_meths _ _).2, a, pr, pre5, _, ["end"], rfl, rw5, (fun z => by cases z), Clean.no32 (ws := ["end"]) (fun x hx => clean_lits x (by rw [List.mem_singleton.mp hx]; simp)), fun H6 p6 pre6 f6 rw6 hp6 hp5 => ⟨sl1, fun q6 hq6 => ?_⟩⟩
  have l6 := (Fr.new (S := []) (o := .lst [V.str "end"]) hq6).at hp6
  refine ⟨.list [.str "end"], .list [.str "end"], .lst (SqL.of l6) (.cons (.str _) .nil), .lst (SqL.of upd_same) (.cons (.str _) .nil), (by decide +kernel), (by decide +kernel), _, rfl, iteNF (by decide +kernel) ?_⟩
  have rw7 := rw6.keep (S := []) (Fr.new (o := .lst [V.str "end"]) hq6) (by simp) (by simp)
  have i57 : Imm H5 (upd H6 q6 (.lst [V.str "end"])) := (rw5.imm f6).trans (imm_upd (soft_none hq6))
  have i47 : Imm H4 (upd H6 q6 (.lst [V.str "end"])) := (rw4.imm f5).trans i57
  have f07 : Fr [a] H (upd H6 q6 (.lst [V.str "end"])) := f04.trans (f5.trans (f6.trans (Fr.new hq6)))
  generalize upd H6 q6 (.lst [V.str "end"]) = H7 at *
  refine ⟨_, rfl, _, rfl, _, rfl, sl4, fun t9 ht9 => kk _ _ pre6 (f07.trans (Fr.new ht9)) (rw7.keep (S := []) (Fr.new ht9) (by simp) (by simp)) (rep_new ht9 (.cons .str (.cons (ra.mono (i13.trans i47)) (.cons (rb.mono (i23.trans i47)) (.one (rc.mono i57))))))⟩
theorem ne_ends2 : ¬ (("give" : Str) = "go") ∧ ¬ (("fail" : Str) = "go") ∧ ¬ (("if" : Str) = "go") ∧ ¬ (("fail" : Str) = "give") ∧ ¬ (("if" : Str) = "give") ∧ ¬ (("if" : Str) = "fail") := by decide +kernel
theorem sc_read_end : FnScope ["words", "rows", "depth"] ["words", "rows", "depth"] (defScope s_read_end) := C8.fnScope_by (by decide +kernel)
theorem ok_read_end (T : TX K mg) {n k : Nat} (hk : 128 ≤ k) (c_read_if : C8.Cal P w K mg base k "read_if" (spReadIf K n) []) : C8.Cal P w K mg base (k + 1) "read_end" (spReadEnd K n) [] := by
  have c_read_atom : C8.Cal P w K mg base 126 "read_atom" spReadAtom [] := ok_read_atom T
  have c_read_atoms : C8.Cal P w K mg base 127 "read_atoms" spReadAtoms [] := ok_read_atoms T
  have c_name_of : C8.Cal P w K mg base 3 "name_of" spNameOf [] := ok_name_of T
  have c_is_word : C8.Cal P w K mg base 2 "is_word" spIsWord [] := ok_is_word T
  refine cal_of T.f_read_end T.g_read_end sc_read_end (fun _ _ _ _ _ _ us hl => match us, hl with | [_, _, _], _ => rfl) (fun vs H Q E h => ?_) (fun cdv A outer s H vs Q E hr h => ?_)
  · obtain ⟨pw, a, pr, b, pre, post, rfl, _⟩ := h
    rfl
  obtain ⟨pw, a, pr, b, pre, post, rfl, hn8, hpw, hrw, wb, sb, ib, kk⟩ := h
  refine ⟨_, (pss_cons (ps_if (PW.pt (pw_and (pt_cmpR op_eq (pe_ix (r := rIxL K) ix_list (pv 0) pe_int (fun _ _ => rfl)) pe_str (nomark _)) (pw_and1 (pt_cmpR op_gt (pe_callB call_len_seq (by rfl) T.z_len (by decide +kernel) (pa_cons (pv 0) pa_nil)) pe_int (nomark _))))) (pss_one (ps_ret (pe_tup (pa_cons pe_str (pa_cons (C8.pe_c c_name_of hr (by omega) (by rfl) (pa_cons (pe_ix (r := rIxL K) ix_list (pv 0) pe_int (fun _ _ => rfl)) pa_nil)) (pa_cons (C8.pe_c c_read_atoms hr (by omega) (by rfl) (pa_cons (pe_slice sl_list (pv 0) (po_some pe_int) po_none) pa_nil)) pa_nil)))))) pss_nil)
      (pss_cons (ps_if (pt_cmpR op_ne (pe_callB call_len_seq (by rfl) T.z_len (by decide +kernel) (pa_cons (pv 0) pa_nil)) pe_int (nomark _)) (pss_one ps_never) pss_nil)
      (pss_cons (ps_if (pt_cmpR op_eq (pe_ix (r := rIxL K) ix_list (pv 0) pe_int (fun _ _ => rfl)) pe_str (nomark _)) (pss_one (ps_ret (pe_tup (pa_cons pe_str (pa_cons (C8.pe_c c_read_atom hr (by omega) (by rfl) (pa_cons (pe_ix (r := rIxL K) ix_list (pv 0) pe_int (fun _ _ => rfl)) pa_nil)) pa_nil))))) pss_nil)
      (pss_cons (ps_if (PW.pt (pw_and (pt_cmpR op_eq (pe_ix (r := rIxL K) ix_list (pv 0) pe_int (fun _ _ => rfl)) pe_str (nomark _)) (pw_and1 (pt_val (C8.pe_c c_is_word hr (by omega) (by rfl) (pa_cons (pe_ix (r := rIxL K) ix_list (pv 0) pe_int (fun _ _ => rfl)) pa_nil)))))) (pss_one (ps_ret (pe_tup (pa_cons pe_str (pa_cons (pe_ix (r := rIxL K) ix_list (pv 0) pe_int (fun _ _ => rfl)) pa_nil))))) pss_nil)
      (pss_cons (ps_if (pt_cmpR op_eq (pe_ix (r := rIxL K) ix_list (pv 0) pe_int (fun _ _ => rfl)) pe_str (nomark _)) (pss_one (ps_ret (C8.pe_c c_read_if hr (by omega) (by rfl) (pa_cons (pv 0) (pa_cons (pv 1) (pa_cons (pv 2) pa_nil)))))) pss_nil)
      (pss_one ps_never)))))), ?_⟩
  obtain ⟨n1, n2, n3, n4, n5, n6⟩ := ne_ends2
  have kk0 : ∀ H' v, Fr [] H H' → endRest b ++ post = post → Rep H' b.eD v → Q v H' := fun H' v f e rv => by
    rw [e] at hrw
    exact kk H' v pre (Fr.mono f (by simp)) (hrw.keep f (by simp) (by simp)) rv
  cases b with
  | leaf ss e =>
    cases e with
    | go f as =>
      obtain ⟨w1, w2, w3⟩ := wb.2
      have s3 := sb.2
      have ec : ∀ HH : Hp, ∀ q, upd HH q (.lst (cutV ((endW (.leaf ss (.go f as))).map V.str) (some 2) none)) q = some (.lst ((as.map atomT).map V.str)) := fun HH q => by
        rw [upd_same, show (some (2 : Int)) = some ((2 : Nat) : Int) from rfl, cut_drop (by show 2 ≤ (List.map V.str ([("go" : Str), f] ++ as.map atomT)).length; simp)]
        rfl
      refine ⟨_, rfl, pw, _, 0, _, rfl, rfl, SqL.of hpw, atI_get? (by decide) rfl, rfl, _, rfl, yes_S ?_⟩
      refine ⟨_, rfl, pw, _, rfl, .inl (SqL.of hpw), _, _, rfl, rfl, _, rfl, ifB (fun _ => ?_) fun q => absurd (by rw [List.length_map]; show (1 : Int) < (([("go" : Str), f] ++ as.map atomT).length : Int); simp; omega) q⟩
      refine ⟨_, rfl, pw, _, 1, _, rfl, rfl, SqL.of hpw, atI_get? (by decide) rfl, f, rfl, w1, _, rfl, 2, rfl, pw, _, rfl, SqL.of hpw, fun q hq => ⟨q, as, rfl, ec _ _, by omega, fun x hx => ⟨w3 x hx, s3 x hx⟩, fun H2 va f2 ra => ⟨sl3, fun t ht => ?_⟩⟩⟩
      exact kk0 _ _ ((Fr.new hq).trans (f2.trans (Fr.new ht))) rfl (rep_new ht (.cons .str (.cons .str (.one ra))))
    | give t =>
      refine ⟨_, rfl, pw, _, 0, _, rfl, rfl, SqL.of hpw, atI_get? (by decide) rfl, rfl, _, rfl, no_S n1 ?_⟩
      refine ⟨_, rfl, pw, _, rfl, .inl (SqL.of hpw), rfl, _, rfl, ifNI (fun q => absurd rfl q) fun _ => ?_⟩
      refine ⟨_, rfl, pw, _, 0, _, rfl, rfl, SqL.of hpw, atI_get? (by decide) rfl, rfl, _, rfl, yes_S ?_⟩
      exact ⟨_, rfl, pw, _, 1, _, rfl, rfl, SqL.of hpw, atI_get? (by decide) rfl, t, rfl, wb.2, sb.2, fun H2 va f2 ra => ⟨sl2, fun q hq => kk0 _ _ (f2.trans (Fr.new hq)) rfl (rep_new hq (.cons .str (.one ra)))⟩⟩
    | fail x =>
      have wx : IsWord x := wb.2
      refine ⟨_, rfl, pw, _, 0, _, rfl, rfl, SqL.of hpw, atI_get? (by decide) rfl, rfl, _, rfl, no_S n2 ?_⟩
      refine ⟨_, rfl, pw, _, rfl, .inl (SqL.of hpw), rfl, _, rfl, ifNI (fun q => absurd rfl q) fun _ => ?_⟩
      refine ⟨_, rfl, pw, _, 0, _, rfl, rfl, SqL.of hpw, atI_get? (by decide) rfl, rfl, _, rfl, no_S n4 ?_⟩
      refine ⟨_, rfl, pw, _, 0, _, rfl, rfl, SqL.of hpw, atI_get? (by decide) rfl, rfl, _, rfl, yes_S ?_⟩
      refine ⟨_, rfl, pw, _, 1, _, rfl, rfl, SqL.of hpw, atI_get? (by decide) rfl, x, rfl, sl_le (by have := wx.2.1; omega), fun b hb => ⟨_, rfl, ?_⟩⟩
      rw [hb.mpr wx]
      exact iteT ⟨_, rfl, pw, _, 1, _, rfl, rfl, SqL.of hpw, atI_get? (by decide) rfl, sl2, fun q hq => kk0 _ _ (Fr.new hq) rfl (rep_new hq (.cons .str (.one .str)))⟩
  | iff ss t b c =>
    have ib' : 1 + max (ifsB b) (ifsB c) ≤ n := ib
    obtain ⟨n', rfl⟩ : ∃ n', n = n' + 1 := ⟨n - 1, by omega⟩
    refine ⟨_, rfl, pw, _, 0, _, rfl, rfl, SqL.of hpw, atI_get? (by decide) rfl, rfl, _, rfl, no_S n3 ?_⟩
    refine ⟨_, rfl, pw, _, rfl, .inl (SqL.of hpw), rfl, _, rfl, ifNI (fun q => absurd rfl q) fun _ => ?_⟩
    refine ⟨_, rfl, pw, _, 0, _, rfl, rfl, SqL.of hpw, atI_get? (by decide) rfl, rfl, _, rfl, no_S n5 ?_⟩
    refine ⟨_, rfl, pw, _, 0, _, rfl, rfl, SqL.of hpw, atI_get? (by decide) rfl, rfl, _, rfl, no_S n6 ?_⟩
    refine ⟨_, rfl, pw, _, 0, _, rfl, rfl, SqL.of hpw, atI_get? (by decide) rfl, rfl, _, rfl, yes_S ?_⟩
    have er : endRest (.iff ss t b c) ++ post = rowsB b ++ (("else" : Str) :: (rowsB c ++ (("end" : Str) :: post))) := by
      rw [endRest]
      simp only [List.append_assoc, List.cons_append, List.nil_append]
    rw [er] at hrw
    exact ⟨_, rfl, _, rfl, _, rfl, pw, a, pr, t, b, c, pre, post, rfl, hn8, hpw, hrw, wb.2.1, sb.2.1, wb.2.2.1, sb.2.2.1, by omega, wb.2.2.2, sb.2.2.2, by omega, kk⟩
end
end FK
/-! FKQ6 -/
set_option maxHeartbeats 400000
namespace FK
open PySem PySem.Spec PyProof.Rows L2
open TL (tl)
def curW (b : Block) : List Step → List Str
  | [] => endW b
  | s :: _ => stepW s
def curRest (b : Block) (post : List Str) : List Step → List Str
  | [] => endRest b ++ post
  | _ :: r => r.map stepT ++ (joinW (endW b) :: (endRest b ++ post))
theorem cur_rows (b : Block) (post : List Str) : ∀ rem : List Step, rem.map stepT ++ (joinW (endW b) :: (endRest b ++ post)) = joinW (curW b rem) :: curRest b post rem
  | [] => rfl
  | s :: r => by rw [List.map_cons, step_join]; rfl
theorem stepW_form (s : Step) : ∃ n op X, stepW s = n :: ("=" : Str) :: op :: X := by
  cases s with
  | let_ n op as => exact ⟨n, op, _, rfl⟩
  | call n f as => exact ⟨n, "call", _, rfl⟩
theorem name_eq {f : Str} (h : IsName f) : ¬ f = "=" := fun z => by
  obtain ⟨c, r, e, hc⟩ := h.2.2.1
  rw [z, show tl ("=" : Str) = [61] by decide +kernel] at e
  injection e with e1 e2
  rw [← e1] at hc
  exact absurd hc (by decide)
theorem end_form {b : Block} (h : WfB b) : (endW b).length ≤ 2 ∧ endW b ≠ [] ∨ ∃ f X, endW b = ("go" : Str) :: f :: X ∧ ¬ f = "=" := by
  cases b with
  | leaf ss e =>
    cases e with
    | give a => exact .inl ⟨Nat.le_refl _, fun z => by cases z⟩
    | go f as => exact .inr ⟨f, _, rfl, name_eq h.2.1⟩
    | fail w => exact .inl ⟨Nat.le_refl _, fun z => by cases z⟩
  | iff ss a b c => exact .inl ⟨Nat.le_refl _, fun z => by cases z⟩
theorem curW_ne {b : Block} (h : WfB b) : ∀ rem, curW b rem ≠ []
  | [] => by
    rcases end_form h with h | ⟨f, X, e, _⟩
    · exact h.2
    · show endW b ≠ []
      rw [e]
      exact fun z => by cases z
  | s :: r => by
    obtain ⟨n, op, X, e⟩ := stepW_form s
    show stepW s ≠ []
    rw [e]
    exact fun z => by cases z
section
variable {P : Program} {w : World} {K : PySem.W.Frag} {mg : Str → Option Value} {base : Heap}
theorem sc_read_block : FnScope ["rows", "depth", "steps", "words"] ["rows", "depth"] (defScope s_read_block) := C8.fnScope_by (by decide +kernel)
theorem ok_read_block_step (T : TX K mg) {n k : Nat} (hk : 128 ≤ k) (c_read_end : C8.Cal P w K mg base k "read_end" (spReadEnd K n) []) : C8.Cal P w K mg base (k + 1) "read_block" (spReadBlock K n) [] := by
  have c_read_step : C8.Cal P w K mg base 128 "read_step" spReadStep [] := ok_read_step T
  have m_words : C8.Met P w K mg base 2 (He.ga K "Rows") "words" (spWordsR K) [] := ok_words T
  refine cal_of T.f_read_block T.g_read_block sc_read_block (fun _ _ _ _ _ _ us hl => match us, hl with | [_, _], _ => rfl) (fun vs H Q E h => ?_) (fun cdv A outer s H vs Q E hr h => ?_)
  · obtain ⟨a, pr, b, pre, post, rfl, _⟩ := h
    rfl
  obtain ⟨a, pr, b, pre, post, rfl, hn8, hrw, wb, sb, ib, kk⟩ := h
  refine ⟨_, (pss_cons (ps_set (i := 2) sc_read_block.nd rfl (by first | exact Or.inl rfl | exact Or.inr rfl) (pe_lst pa_nil))
      (pss_cons (ps_set (i := 3) sc_read_block.nd rfl (by first | exact Or.inl rfl | exact Or.inr rfl) (C8.pe_mt0 m_words hr (by omega) (pv 0)))
      (pss_cons (ps_while PassesOwn.never (PW.pt (pw_and (pt_cmpR op_gt (pe_callB call_len_seq (by rfl) T.z_len (by decide +kernel) (pa_cons (pv 3) pa_nil)) pe_int (nomark _)) (pw_and1 (pt_cmpR op_eq (pe_ix (r := rIxL K) ix_list (pv 3) pe_int (fun _ _ => rfl)) pe_str (nomark _)))))
        (pss_cons (ps_expr (pe_bm PySem.F.plainAttrs_list PySem.F.slot_list_append PySem.F.type_list_append mt_append (pv 2) (pa_cons (C8.pe_c c_read_step hr (by omega) (by rfl) (pa_cons (pv 3) pa_nil)) pa_nil)))
      (pss_one (ps_set (i := 3) sc_read_block.nd rfl (by first | exact Or.inl rfl | exact Or.inr rfl) (C8.pe_mt0 m_words hr (by omega) (pv 0))))))
      (pss_one (ps_ret (pe_tup (pa_cons (pe_callTy call_tuple_of (by rfl) T.z_tuple (by decide +kernel) (pa_cons (pv 2) pa_nil)) (pa_cons (C8.pe_c c_read_end hr (by omega) (by rfl) (pa_cons (pv 3) (pa_cons (pv 0) (pa_cons (pv 1) pa_nil)))) pa_nil)))))))), ?_⟩
  have hwf : ∀ s ∈ b.ss, WfStep s := by
    cases b with
    | leaf ss e => exact wb.1
    | iff ss t c d => exact wb.1
  have hsr : ∀ s ∈ b.ss, SrtS s := by
    cases b with
    | leaf ss e => exact sb.1
    | iff ss t c d => exact sb.1
  have hrows : rowsB b ++ post = joinW (curW b b.ss) :: curRest b post b.ss := by
    rw [rows_split, List.append_assoc, ← cur_rows]
    rfl
  rw [hrows] at hrw
  have hcl : ∀ rem, (∀ s ∈ rem, WfStep s) → Clean (curW b rem) := fun rem h => by
    cases rem with
    | nil => exact clean_end wb
    | cons s r => exact clean_step (h s List.mem_cons_self)
  have hlen : b.ss.length ≤ 100000 := by
    have h0 := hrw.2.1
    rw [← cur_rows] at h0
    simp only [List.length_append, List.length_map, List.length_cons] at h0
    omega
  refine ⟨sl0, fun r hr0 => ?_⟩
  have nra : a ≠ r := fun z => hrw.ne.1 (by rw [z]; exact hr0)
  have nrp : pr ≠ r := fun z => hrw.ne.2 (by rw [z]; exact hr0)
  have rw1 := hrw.keep (S := []) (Fr.new (o := .lst []) hr0) (by simp) (by simp)
  have f1 : Fr [a] H (upd H r (.lst [])) := Fr.new hr0
  have r1 : upd H r (.lst []) r = some (.lst []) := upd_same
  generalize upd H r (.lst []) = H1 at *
  obtain ⟨h11, h10, dx1, h12, h13⟩ := id rw1
  refine ⟨_, rfl, a, dx1, _, rfl, h12, (rw_meths _ _).2, a, pr, pre, _, curW b b.ss, rfl, rw1, curW_ne wb _, (hcl _ hwf).no32, fun H2 p2 pre2 f2 rw2 hp2 hp1n => ?_⟩
  have hpn2 : p2 ≠ r := fun z => by rw [z, r1] at hp1n; cases hp1n
  refine ⟨fun m σ H3 => ∃ (dn rem : List Step) (pre' : List Str) (p : Addr) (xs : List V), m = rem.length ∧ b.ss = dn ++ rem ∧ σ = [some (V.ref a), some (V.int (8 - (n : Int))), some (V.ref r), some (V.ref p)] ∧ RWS K H3 a pr pre' (curRest b post rem) ∧ H3 p = some (.lst ((curW b rem).map V.str)) ∧ H3 r = some (.lst xs) ∧ RepL H3 (dn.map Step.d) xs ∧ Fr [a] H H3 ∧ p ≠ r,
    ⟨_, [], b.ss, pre2, p2, [], rfl, rfl, rfl, rw2, hp2, f2.at r1 (by simp; exact nra.symm), RepL.nil, f1.trans f2, hpn2⟩, ?_⟩
  rintro m σ H3 ⟨dn, rem, pre3, p, xs, rfl, el, rfl, rw3, hp3, hr3, rx, f3, npr⟩
  have hdn : dn.length ≤ 100000 := by
    have := congrArg List.length el
    rw [List.length_append] at this
    omega
  cases rem with
  | nil =>
    rw [List.append_nil] at el
    have fin : ∀ t, H3 t = none → ∀ H' v pre', Fr [a] (upd H3 t (.tup xs)) H' → RWS K H' a pr pre' post → Rep H' b.eD v → ∀ q, H' q = none → Q (.ref q) (upd H' q (.tup [.ref t, v])) := fun t ht H' v pre' f rw' rv q hq => by
      refine kk _ _ pre' (f3.trans ((Fr.new ht).trans (f.trans (Fr.new hq)))) (rw'.keep (S := []) (Fr.new hq) (by simp) (by simp)) ?_
      rw [b.d_eq]
      refine rep_new hq (.cons ?_ (.one rv))
      have rw4 := rw3.keep (S := []) (Fr.new (o := .tup xs) ht) (by simp) (by simp)
      rw [el]
      exact (rep_new ht rx).mono (rw4.imm f)
    rcases end_form wb with h2 | ⟨f, X, ef, nf⟩
    · refine ⟨_, rfl, p, _, rfl, .inl (SqL.of hp3), _, _, rfl, rfl, _, rfl, ifB (fun q => absurd q ?_) fun _ => iteF ?_⟩
      · rw [List.length_map]
        show ¬ (2 : Int) < ((endW b).length : Int)
        have := h2.1
        omega
      · exact ⟨_, rfl, r, _, rfl, .inl ⟨SqL.of hr3, fun t ht => ⟨_, rfl, _, rfl, _, rfl, p, a, pr, b, pre3, post, rfl, hn8, (Fr.new (S := []) ht).at hp3, rw3.keep (S := []) (Fr.new ht) (by simp) (by simp), wb, sb, ib, fun H' v pre' f rw' rv => ⟨sl2, fun q hq => fin t ht H' v pre' f rw' rv q hq⟩⟩⟩⟩
    · have at1 : atI ((curW b []).map V.str) 1 = some (.str f) := by
        show atI ((endW b).map V.str) 1 = _
        rw [ef]
        exact atI_get? (by decide) rfl
      refine ⟨_, rfl, p, _, rfl, .inl (SqL.of hp3), _, _, rfl, rfl, _, rfl, ifB (fun _ => ?_) fun _ => iteF ?_⟩
      · refine ⟨_, rfl, p, _, 1, _, rfl, rfl, SqL.of hp3, at1, rfl, _, rfl, no_S nf ?_⟩
        exact ⟨_, rfl, r, _, rfl, .inl ⟨SqL.of hr3, fun t ht => ⟨_, rfl, _, rfl, _, rfl, p, a, pr, b, pre3, post, rfl, hn8, (Fr.new (S := []) ht).at hp3, rw3.keep (S := []) (Fr.new ht) (by simp) (by simp), wb, sb, ib, fun H' v pre' f rw' rv => ⟨sl2, fun q hq => fin t ht H' v pre' f rw' rv q hq⟩⟩⟩⟩
      · exact ⟨_, rfl, r, _, rfl, .inl ⟨SqL.of hr3, fun t ht => ⟨_, rfl, _, rfl, _, rfl, p, a, pr, b, pre3, post, rfl, hn8, (Fr.new (S := []) ht).at hp3, rw3.keep (S := []) (Fr.new ht) (by simp) (by simp), wb, sb, ib, fun H' v pre' f rw' rv => ⟨sl2, fun q hq => fin t ht H' v pre' f rw' rv q hq⟩⟩⟩⟩
  | cons s rr =>
    obtain ⟨n0, op0, X0, es⟩ := stepW_form s
    have at1 : atI ((curW b (s :: rr)).map V.str) 1 = some (.str "=") := by
      show atI ((stepW s).map V.str) 1 = _
      rw [es]
      exact atI_get? (by decide) rfl
    have hs : s ∈ b.ss := by rw [el]; simp
    refine ⟨_, rfl, p, _, rfl, .inl (SqL.of hp3), _, _, rfl, rfl, _, rfl, ifB (fun _ => ?_) fun q => absurd ?_ q⟩
    rotate_left
    · rw [List.length_map]
      show (2 : Int) < ((stepW s).length : Int)
      rw [es]
      simp
      omega
    refine ⟨_, rfl, p, _, 1, _, rfl, rfl, SqL.of hp3, at1, rfl, _, rfl, yes_S ?_⟩
    refine ⟨fun σ' H' => ∃ (pre' : List Str) (p' : Addr) (xs' : List V), σ' = [some (V.ref a), some (V.int (8 - (n : Int))), some (V.ref r), some (V.ref p')] ∧ RWS K H' a pr pre' (curRest b post rr) ∧ H' p' = some (.lst ((curW b rr).map V.str)) ∧ H' r = some (.lst xs') ∧ RepL H' ((dn ++ [s]).map Step.d) xs' ∧ Fr [a] H H' ∧ p' ≠ r, fun σ' H' ⟨pre', p', xs', e1, e2, e3, e4, e5, e6, e7⟩ => ⟨rr.length, by simp, dn ++ [s], rr, pre', p', xs', rfl, by rw [el]; simp, e1, e2, e3, e4, e5, e6, e7⟩, ?_⟩
    refine ⟨_, rfl, .inl ⟨rfl, _, SqL.of hr3⟩, _, rfl, p, s, rfl, hp3, hwf s hs, hsr s hs, fun H4 v f4 rv => ?_⟩
    have hr4 := f4.at hr3
    refine ⟨r, _, _, rfl, rfl, hr4, sl_lt (by rw [rx.length, List.length_map]; omega), ?_⟩
    have rw4 := (rw3.keep f4 (by simp) (by simp)).keep (S := [r]) (H' := upd H4 r (.lst (xs ++ [v]))) (Fr.put (by simp)) (by simp; exact nra) (by simp; exact nrp)
    have rx4 : RepL (upd H4 r (.lst (xs ++ [v]))) ((dn ++ [s]).map Step.d) (xs ++ [v]) := by
      rw [List.map_append]
      exact ((rx.mono f4.imm0).snoc rv).mono (imm_upd (soft_lst hr4))
    have f5 : Fr [a] H (upd H4 r (.lst (xs ++ [v]))) := (f3.trans (Fr.mono f4 (by simp))).put_new hr0
    have hr5 : upd H4 r (.lst (xs ++ [v])) r = some (.lst (xs ++ [v])) := upd_same
    generalize upd H4 r (.lst (xs ++ [v])) = H5 at *
    have rw5 : RWS K H5 a pr pre3 (joinW (curW b rr) :: curRest b post rr) := by
      rw [← cur_rows]
      exact rw4
    obtain ⟨h51, h50, dx5, h52, h53⟩ := id rw5
    refine ⟨_, rfl, a, dx5, _, rfl, h52, (rw_meths _ _).2, a, pr, pre3, _, curW b rr, rfl, rw5, curW_ne wb _, (hcl rr fun x hx => hwf x (by rw [el]; simp [hx])).no32, fun H6 p6 pre6 f6 rw6 hp6 hp5n => ?_⟩
    exact ⟨pre6, p6, xs ++ [v], rfl, rw6, hp6, f6.at hr5 (by simp; exact nra.symm), rx4.mono (rw5.imm f6), f5.trans f6, fun z => by rw [z, hr5] at hp5n; cases hp5n⟩
theorem ok_read_block (T : TX K mg) : ∀ n, C8.Cal P w K mg base (130 + 3 * n) "read_block" (spReadBlock K n) []
  | 0 => by
    refine ok_read_block_step T (k := 129) (by decide) (ok_read_end T (k := 128) (by decide) ?_)
    obtain ⟨f, fd, ps, ds, F, a, b, c, d⟩ := (cal_none (P := P) (w := w) (base := base) T.f_read_if T.g_read_if (ps := ["words", "rows", "depth"]) (sp := spReadIf K 0) (fun _ _ _ _ _ _ us hl => match us, hl with | [_, _, _], _ => rfl) fun vs H Q E h => h).ex
    exact ⟨f, fd, ps, ds, F.mono (by decide), a, b, c, d⟩
  | n + 1 => ok_read_block_step T (k := 130 + 3 * n + 2) (by omega) (ok_read_end T (k := 130 + 3 * n + 1) (by omega) (ok_read_if T (by omega) (ok_read_block T n)))
end
end FK
/-! FKW -/
set_option maxHeartbeats 400000
namespace FK
open PySem PySem.Spec PyProof.Rows L2 HT PySem.AutoSeq1
/-! ### l.extend(t), t a tuple -/
theorem ext_tup (l : Addr) (items : Array Value) (n : Nat) (b : Addr) (items2 : Array Value) (n2 : Nat) (dd : Option Addr) (sl : Array (Option Value)) (hs0 : ¬(!items.isEmpty && Builtin.List.listTooLong (items.size + items2.size)) = true) (hs1 : items.size ≤ sizeLine) (hs2 : items.size + items2.size ≤ sizeLine + 1) :
    Meets (Builtin.«list.extend» ⟨[.ref l, .ref b], []⟩) (fun _ R s => s.heap.get? l = some { cls := .type "list", dict := none, data := .seq items n, slots := #[] } ∧ s.heap.get? b = some { cls := .type "tuple", dict := dd, data := .seq items2 n2, slots := sl } ∧ R (.ok (.ret Value.none)) { s with heap := s.heap.update l (Obj.mapSeq fun x => x ++ items2), toks := s.toks }) :=
  .of_wp fun prog w A R s h => by
    obtain ⟨hp, g, d, tk, os⟩ := s; obtain ⟨hl, hb, h⟩ := h; have f1 := idx_int; have f2 := AutoSeq1.sub_tuple_tuple; have f3 := AutoSeq1.sub_list_list; have f4 := AutoSeq1.sub_tuple_list; have f5 := AutoSeq1.sub_list_tuple;
    have hz' : (items ++ items2).size ≤ sizeLine + 1 := by rw [Array.size_append]; exact hs2
    wp_walk using (wpAny_updateSeq hl rfl (hz := hs1) (_hz' := hz')), wpAny_loadPart' hl, wpAny_loadPart' hb; exact ⟨_, rfl, h⟩
def rExtendT (K : PySem.W.Frag) : V → List V → Hp → VK → Prop := fun x vs H Q => ∃ l b xs zs, x = .ref l ∧ vs = [.ref b] ∧ H l = some (.lst xs) ∧ SqT K H b zs ∧ xs.length + zs.length ≤ sizeLine ∧ Q .non (upd H l (.lst (xs ++ zs)))
theorem mt_extendT {X : Cx} : MtR X "list.extend" (rExtendT X.K) := by
  intro pins s σ H x vs v us Q I rx rv h
  obtain ⟨l, b, xs, zs, rfl, rfl, hH, hB, hz, q⟩ := h
  cases rx
  obtain ⟨u, rfl, ru⟩ := rv.one
  cases ru
  obtain ⟨z, its, n, r, hl, e⟩ := I.lstM hH
  obtain ⟨its2, r2, ht2, hl2⟩ := I.tuple hB
  obtain ⟨⟨cls2, dd2, data2, sl2⟩, ho2, hc2, n2, hd2⟩ := id ht2
  simp only at hc2 hd2
  subst hc2 hd2
  have el2 := r2.length
  have hsz : its.toArray.size + its2.toArray.size ≤ sizeLine := by rw [List.size_toArray, List.size_toArray]; omega
  have hlong : ¬ (!its.toArray.isEmpty && Builtin.List.listTooLong (its.toArray.size + its2.toArray.size)) = true := by
    rw [notLongL hsz, Bool.and_false]
    exact Bool.false_ne_true
  refine call_meets F.slot_list_extend ⟨_, e, rfl⟩ F.entry_list_extend (F.args_list_extend_2 _ _)
    (ext_tup l its.toArray n b its2.toArray n2 dd2 sl2 hlong (by rw [List.size_toArray]; omega) (by omega)) ⟨e, ho2, ?_⟩
  refine ⟨.non, _, I.lset (its' := its ++ its2) hH e (by simp) (r.append r2) ?_, rfl, q⟩
  rw [List.length_append]
  omega
end FK
/-! FKX1 -/
set_option maxHeartbeats 400000
namespace FK
open PySem PySem.Spec PyProof.Rows L2
open TL (tl)
/-! ### lines -/
inductive Line where
  | st (s : Step) | en (b : Block)
def Line.d : Line → D
  | .st s => s.d
  | .en b => b.eD
def atomsL : Line → List Atom
  | .st (.let_ _ _ as) => as
  | .st (.call _ _ as) => as
  | .en (.leaf _ (.give a)) => [a]
  | .en (.leaf _ (.go _ as)) => as
  | .en (.leaf _ (.fail _)) => []
  | .en (.iff _ a _ _) => [a]
def aimL : Line → Option Str
  | .st (.let_ _ _ _) => none
  | .st (.call _ f _) => some f
  | .en (.leaf _ (.give _)) => none
  | .en (.leaf _ (.go f _)) => some f
  | .en (.leaf _ (.fail _)) => none
  | .en (.iff _ _ _ _) => none
def aimV : Option Str → V
  | none => .non
  | some f => .str f
def spAtomsOf : Sp := fun vs H Q _ => ∃ (v : V) (l : Line), vs = [v] ∧ Rep H l.d v ∧ ∀ H' va, Fr [] H H' → Rep H' (atomsD (atomsL l)) va → Q va H'
def spAimOf : Sp := fun vs H Q _ => ∃ (v : V) (l : Line), vs = [v] ∧ Rep H l.d v ∧ Q (aimV (aimL l)) H
def spLinesOf : Nat → Sp
  | 0 => fun _ _ _ _ => False
  | n + 1 => fun vs H Q _ => ∃ (v : V) (b : Block), vs = [v] ∧ Rep H b.d v ∧ ifsB b ≤ n ∧ linesB b ≤ 1000 ∧ ∀ H' t xs, Fr [] H H' → H' t = some (.tup xs) → xs.length = linesB b → Q (.ref t) H'
theorem ne_kinds : ¬ (("give" : Str) = "let") ∧ ¬ (("give" : Str) = "call") ∧ ¬ (("give" : Str) = "go") ∧ ¬ (("give" : Str) = "fail") ∧ ¬ (("go" : Str) = "let") ∧ ¬ (("go" : Str) = "call") ∧ ¬ (("fail" : Str) = "let") ∧ ¬ (("fail" : Str) = "call") ∧ ¬ (("fail" : Str) = "go") ∧
  ¬ (("if" : Str) = "let") ∧ ¬ (("if" : Str) = "call") ∧ ¬ (("if" : Str) = "go") ∧ ¬ (("if" : Str) = "fail") ∧ ¬ (("call" : Str) = "let") ∧ ¬ (("let" : Str) = "call") ∧ ¬ (("let" : Str) = "go") ∧ ¬ (("give" : Str) = "if") ∧ ¬ (("go" : Str) = "if") ∧ ¬ (("fail" : Str) = "if") := by decide +kernel
section
variable {P : Program} {w : World} {K : PySem.W.Frag} {mg : Str → Option Value} {base : Heap}
theorem sc_aim_of : FnScope ["line"] ["line"] (defScope s_aim_of) := C8.fnScope_by (by decide +kernel)
theorem ok_aim_of (T : TX K mg) : C8.Cal P w K mg base 1 "aim_of" spAimOf [] := by
  refine cal_of T.f_aim_of T.g_aim_of sc_aim_of (fun _ _ _ _ _ _ us hl => match us, hl with | [_], _ => rfl) (fun vs H Q E h => ?_) (fun cdv A outer s H vs Q E hr h => ?_)
  · obtain ⟨v, l, rfl, _⟩ := h
    rfl
  obtain ⟨v, l, rfl, rl, k⟩ := h
  refine ⟨_, (pss_cons (ps_if (pt_cmpR op_eq (pe_ix (r := rIxT K) ix_tup (pv 0) pe_int (fun _ _ => rfl)) pe_str (nomark _)) (pss_one (ps_ret (pe_ix (r := rIxT K) ix_tup (pv 0) pe_int (fun _ _ => rfl)))) pss_nil)
      (pss_cons (ps_if (pt_cmpR op_eq (pe_ix (r := rIxT K) ix_tup (pv 0) pe_int (fun _ _ => rfl)) pe_str (nomark _)) (pss_one (ps_ret (pe_ix (r := rIxT K) ix_tup (pv 0) pe_int (fun _ _ => rfl)))) pss_nil)
      (pss_one (ps_ret pe_non)))), ?_⟩
  obtain ⟨n1, n2, n3, n4, n5, n6, n7, n8, n9, n10, n11, n12, n13, n14, n15, n16, n17, n18, n19⟩ := ne_kinds
  have two : ∀ {x : Str} {ds : List D} {t : Addr} {xs : List V}, H t = some (.tup xs) → RepL H (.str x :: ds) xs → ∃ r, xs = V.str x :: r ∧ RepL H ds r := fun ht hx => by
    obtain ⟨y, r, rfl, h1, h2⟩ := repL_cons.mp hx
    rw [rep_str] at h1
    subst h1
    exact ⟨r, rfl, h2⟩
  cases l with
  | st s =>
    cases s with
    | let_ n op as =>
      obtain ⟨t, xs, rfl, ht, hx⟩ := rl.t
      obtain ⟨r, rfl, hx2⟩ := two ht hx
      exact ⟨_, rfl, t, _, 0, _, rfl, rfl, sqT_of ht, atI_get? (by decide) rfl, rfl, _, rfl, no_S n15 ⟨_, rfl, t, _, 0, _, rfl, rfl, sqT_of ht, atI_get? (by decide) rfl, rfl, _, rfl, no_S n16 k⟩⟩
    | call n f as =>
      obtain ⟨t, xs, rfl, ht, hx⟩ := rl.t
      obtain ⟨y0, y1, y2, y3, rfl, r0, r1, r2, r3⟩ := hx.c4
      rw [rep_str] at r0 r1 r2
      subst r0 r1 r2
      exact ⟨_, rfl, t, _, 0, _, rfl, rfl, sqT_of ht, atI_get? (by decide) rfl, rfl, _, rfl, yes_S ⟨_, rfl, t, _, 2, _, rfl, rfl, sqT_of ht, atI_get? (by decide) rfl, k⟩⟩
  | en b =>
    cases b with
    | leaf ss e =>
      cases e with
      | give a =>
        obtain ⟨t, xs, rfl, ht, hx⟩ := rl.t
        obtain ⟨r, rfl, hx2⟩ := two ht hx
        exact ⟨_, rfl, t, _, 0, _, rfl, rfl, sqT_of ht, atI_get? (by decide) rfl, rfl, _, rfl, no_S n2 ⟨_, rfl, t, _, 0, _, rfl, rfl, sqT_of ht, atI_get? (by decide) rfl, rfl, _, rfl, no_S n3 k⟩⟩
      | go f as =>
        obtain ⟨t, xs, rfl, ht, hx⟩ := rl.t
        obtain ⟨y0, y1, y2, rfl, r0, r1, r2⟩ := hx.c3
        rw [rep_str] at r0 r1
        subst r0 r1
        exact ⟨_, rfl, t, _, 0, _, rfl, rfl, sqT_of ht, atI_get? (by decide) rfl, rfl, _, rfl, no_S n6 ⟨_, rfl, t, _, 0, _, rfl, rfl, sqT_of ht, atI_get? (by decide) rfl, rfl, _, rfl, yes_S ⟨_, rfl, t, _, 1, _, rfl, rfl, sqT_of ht, atI_get? (by decide) rfl, k⟩⟩⟩
      | fail x =>
        obtain ⟨t, xs, rfl, ht, hx⟩ := rl.t
        obtain ⟨r, rfl, hx2⟩ := two ht hx
        exact ⟨_, rfl, t, _, 0, _, rfl, rfl, sqT_of ht, atI_get? (by decide) rfl, rfl, _, rfl, no_S n8 ⟨_, rfl, t, _, 0, _, rfl, rfl, sqT_of ht, atI_get? (by decide) rfl, rfl, _, rfl, no_S n9 k⟩⟩
    | iff ss a b c =>
      obtain ⟨t, xs, rfl, ht, hx⟩ := rl.t
      obtain ⟨r, rfl, hx2⟩ := two ht hx
      exact ⟨_, rfl, t, _, 0, _, rfl, rfl, sqT_of ht, atI_get? (by decide) rfl, rfl, _, rfl, no_S n11 ⟨_, rfl, t, _, 0, _, rfl, rfl, sqT_of ht, atI_get? (by decide) rfl, rfl, _, rfl, no_S n12 k⟩⟩
theorem sc_atoms_of : FnScope ["line", "word"] ["line"] (defScope s_atoms_of) := C8.fnScope_by (by decide +kernel)
theorem ok_atoms_of (T : TX K mg) : C8.Cal P w K mg base 1 "atoms_of" spAtomsOf [] := by
  refine cal_of T.f_atoms_of T.g_atoms_of sc_atoms_of (fun _ _ _ _ _ _ us hl => match us, hl with | [_], _ => rfl) (fun vs H Q E h => ?_) (fun cdv A outer s H vs Q E hr h => ?_)
  · obtain ⟨v, l, rfl, _⟩ := h
    rfl
  obtain ⟨v, l, rfl, rl, k⟩ := h
  refine ⟨_, (pss_cons (ps_set (i := 1) sc_atoms_of.nd rfl (by first | exact Or.inl rfl | exact Or.inr rfl) (pe_ix (r := rIxT K) ix_tup (pv 0) pe_int (fun _ _ => rfl)))
      (pss_cons (ps_if (PW.pt (pw_or (pt_cmpR op_eq (pv 1) pe_str (nomark _)) (pw_or1 (pt_cmpR op_eq (pv 1) pe_str (nomark _))))) (pss_one (ps_ret (pe_ix (r := rIxT K) ix_tup (pv 0) pe_int (fun _ _ => rfl)))) pss_nil)
      (pss_cons (ps_if (pt_cmpR op_eq (pv 1) pe_str (nomark _)) (pss_one (ps_ret (pe_ix (r := rIxT K) ix_tup (pv 0) pe_int (fun _ _ => rfl)))) pss_nil)
      (pss_cons (ps_if (pt_cmpR op_eq (pv 1) pe_str (nomark _)) (pss_one (ps_ret (pe_tup pa_nil))) pss_nil)
      (pss_one (ps_ret (pe_tup (pa_cons (pe_ix (r := rIxT K) ix_tup (pv 0) pe_int (fun _ _ => rfl)) pa_nil)))))))), ?_⟩
  obtain ⟨n1, n2, n3, n4, n5, n6, n7, n8, n9, n10, n11, n12, n13, n14, n15, n16, n17, n18, n19⟩ := ne_kinds
  cases l with
  | st s =>
    cases s with
    | let_ n op as =>
      obtain ⟨t, xs, rfl, ht, hx⟩ := rl.t
      obtain ⟨y0, y1, y2, y3, rfl, r0, r1, r2, r3⟩ := hx.c4
      rw [rep_str] at r0 r1 r2
      subst r0 r1 r2
      exact ⟨_, rfl, t, _, 0, _, rfl, rfl, sqT_of ht, atI_get? (by decide) rfl, _, rfl, rfl, _, rfl, yes_S ⟨_, rfl, t, _, 3, _, rfl, rfl, sqT_of ht, atI_get? (by decide) rfl, k _ _ (Fr.refl _ _) r3⟩⟩
    | call n f as =>
      obtain ⟨t, xs, rfl, ht, hx⟩ := rl.t
      obtain ⟨y0, y1, y2, y3, rfl, r0, r1, r2, r3⟩ := hx.c4
      rw [rep_str] at r0 r1 r2
      subst r0 r1 r2
      exact ⟨_, rfl, t, _, 0, _, rfl, rfl, sqT_of ht, atI_get? (by decide) rfl, _, rfl, rfl, _, rfl, no_S n14 ⟨_, rfl, rfl, _, rfl, yes_S ⟨_, rfl, t, _, 3, _, rfl, rfl, sqT_of ht, atI_get? (by decide) rfl, k _ _ (Fr.refl _ _) r3⟩⟩⟩
  | en b =>
    cases b with
    | leaf ss e =>
      cases e with
      | give a =>
        obtain ⟨t, xs, rfl, ht, hx⟩ := rl.t
        obtain ⟨y0, y1, rfl, r0, r1⟩ := hx.c2
        rw [rep_str] at r0
        subst r0
        exact ⟨_, rfl, t, _, 0, _, rfl, rfl, sqT_of ht, atI_get? (by decide) rfl, _, rfl, rfl, _, rfl, no_S n1 ⟨_, rfl, rfl, _, rfl, no_S n2 ⟨_, rfl, rfl, _, rfl, no_S n3 ⟨_, rfl, rfl, _, rfl, no_S n4 ⟨_, rfl, t, _, 1, _, rfl, rfl, sqT_of ht, atI_get? (by decide) rfl, sl1, fun p hp => k _ _ (Fr.new hp) (rep_new hp (.one r1))⟩⟩⟩⟩⟩
      | go f as =>
        obtain ⟨t, xs, rfl, ht, hx⟩ := rl.t
        obtain ⟨y0, y1, y2, rfl, r0, r1, r2⟩ := hx.c3
        rw [rep_str] at r0 r1
        subst r0 r1
        exact ⟨_, rfl, t, _, 0, _, rfl, rfl, sqT_of ht, atI_get? (by decide) rfl, _, rfl, rfl, _, rfl, no_S n5 ⟨_, rfl, rfl, _, rfl, no_S n6 ⟨_, rfl, rfl, _, rfl, yes_S ⟨_, rfl, t, _, 2, _, rfl, rfl, sqT_of ht, atI_get? (by decide) rfl, k _ _ (Fr.refl _ _) r2⟩⟩⟩⟩
      | fail x =>
        obtain ⟨t, xs, rfl, ht, hx⟩ := rl.t
        obtain ⟨y0, y1, rfl, r0, r1⟩ := hx.c2
        rw [rep_str] at r0
        subst r0
        exact ⟨_, rfl, t, _, 0, _, rfl, rfl, sqT_of ht, atI_get? (by decide) rfl, _, rfl, rfl, _, rfl, no_S n7 ⟨_, rfl, rfl, _, rfl, no_S n8 ⟨_, rfl, rfl, _, rfl, no_S n9 ⟨_, rfl, rfl, _, rfl, yes_S ⟨sl0, fun p hp => k _ _ (Fr.new hp) (rep_new hp RepL.nil)⟩⟩⟩⟩⟩
    | iff ss a b c =>
      obtain ⟨t, xs, rfl, ht, hx⟩ := rl.t
      obtain ⟨y0, y1, y2, y3, rfl, r0, r1, r2, r3⟩ := hx.c4
      rw [rep_str] at r0
      subst r0
      exact ⟨_, rfl, t, _, 0, _, rfl, rfl, sqT_of ht, atI_get? (by decide) rfl, _, rfl, rfl, _, rfl, no_S n10 ⟨_, rfl, rfl, _, rfl, no_S n11 ⟨_, rfl, rfl, _, rfl, no_S n12 ⟨_, rfl, rfl, _, rfl, no_S n13 ⟨_, rfl, t, _, 1, _, rfl, rfl, sqT_of ht, atI_get? (by decide) rfl, sl1, fun p hp => k _ _ (Fr.new hp) (rep_new hp (.one r1))⟩⟩⟩⟩⟩
theorem sc_lines_of : FnScope ["block", "steps", "end", "lines"] ["block"] (defScope s_lines_of) := C8.fnScope_by (by decide +kernel)
theorem ok_lines_step (T : TX K mg) {n k : Nat} (c_lines_of : C8.Cal P w K mg base k "lines_of" (spLinesOf n) []) : C8.Cal P w K mg base (k + 1) "lines_of" (spLinesOf (n + 1)) [] := by
  refine cal_of T.f_lines_of T.g_lines_of sc_lines_of (fun _ _ _ _ _ _ us hl => match us, hl with | [_], _ => rfl) (fun vs H Q E h => ?_) (fun cdv A outer s H vs Q E hr h => ?_)
  · obtain ⟨v, b, rfl, _⟩ := h
    rfl
  obtain ⟨v, b, rfl, rb, hi, hl, k⟩ := h
  refine ⟨_, (pss_cons (ps_asg (pv 0) (pg_tup rfl (pgs_cons (pg_name (i := 1) sc_lines_of.nd rfl (by first | exact Or.inl rfl | exact Or.inr rfl)) (pgs_cons (pg_name (i := 2) sc_lines_of.nd rfl (by first | exact Or.inl rfl | exact Or.inr rfl)) pgs_nil))))
      (pss_cons (ps_set (i := 3) sc_lines_of.nd rfl (by first | exact Or.inl rfl | exact Or.inr rfl) (pe_callTy call_list_of (by rfl) T.z_list (by decide +kernel) (pa_cons (pv 1) pa_nil)))
      (pss_cons (ps_expr (pe_bm PySem.F.plainAttrs_list PySem.F.slot_list_append PySem.F.type_list_append mt_append (pv 3) (pa_cons (pv 2) pa_nil)))
      (pss_cons (ps_if (pt_cmpR op_eq (pe_ix (r := rIxT K) ix_tup (pv 2) pe_int (fun _ _ => rfl)) pe_str (nomark _)) (pss_cons (ps_expr (pe_bm PySem.F.plainAttrs_list PySem.F.slot_list_extend PySem.F.type_list_extend mt_extendT (pv 3) (pa_cons (C8.pe_c c_lines_of hr (by omega) (by rfl) (pa_cons (pe_ix (r := rIxT K) ix_tup (pv 2) pe_int (fun _ _ => rfl)) pa_nil)) pa_nil)))
      (pss_one (ps_expr (pe_bm PySem.F.plainAttrs_list PySem.F.slot_list_extend PySem.F.type_list_extend mt_extendT (pv 3) (pa_cons (C8.pe_c c_lines_of hr (by omega) (by rfl) (pa_cons (pe_ix (r := rIxT K) ix_tup (pv 2) pe_int (fun _ _ => rfl)) pa_nil)) pa_nil))))) pss_nil)
      (pss_one (ps_ret (pe_callTy call_tuple_of (by rfl) T.z_tuple (by decide +kernel) (pa_cons (pv 3) pa_nil)))))))), ?_⟩
  obtain ⟨n1, n2, n3, n4, n5, n6, n7, n8, n9, n10, n11, n12, n13, n14, n15, n16, n17, n18, n19⟩ := ne_kinds
  rw [b.d_eq] at rb
  obtain ⟨t, xs, rfl, ht, hx⟩ := rb.t
  obtain ⟨y0, y1, rfl, r0, r1⟩ := hx.c2
  obtain ⟨ts, ss, rfl, hts, hss⟩ := r0.t
  have ssl : ss.length = b.ss.length := by rw [hss.length, List.length_map]
  refine ⟨_, rfl, t, _, rfl, sqT_of ht, rfl, _, _, rfl, _, _, rfl, rfl, ?_⟩
  refine ⟨_, rfl, ts, _, rfl, .inr (sqT_of hts), fun l hl0 => ?_⟩
  have f1 : Fr [] H (upd H l (.lst ss)) := Fr.new hl0
  have sll : b.ss.length + 1 ≤ linesB b := by
    cases b with
    | leaf ss e => exact Nat.le_refl _
    | iff ss a b c => show ss.length + 1 ≤ ss.length + 1 + linesB b + linesB c; omega
  refine ⟨_, rfl, .inl ⟨rfl, _, SqL.of upd_same⟩, _, rfl, l, _, _, rfl, rfl, upd_same, sl_lt (by omega), ?_⟩
  rw [upd_upd]
  have f2 : Fr [] H (upd H l (.lst (ss ++ [y1]))) := Fr.new hl0
  have l2 : upd H l (.lst (ss ++ [y1])) l = some (.lst (ss ++ [y1])) := upd_same
  have r12 := r1.mono f2.imm0
  generalize upd H l (.lst (ss ++ [y1])) = H2 at *
  have done : ∀ H3 xs, Fr [] H H3 → H3 l = some (.lst xs) → xs.length = linesB b → ∀ t', H3 t' = none → Q (.ref t') (upd H3 t' (.tup xs)) := fun H3 xs f3 h3 e t' ht' => k _ t' xs (f3.trans (Fr.new ht')) upd_same e
  cases b with
  | leaf ss' e =>
    have hd : ∃ (x : Addr) (r : Nat), y1 = .ref x ∧ ∃ (z : Str) (zs : List V), H2 x = some (.tup (V.str z :: zs)) ∧ ¬ z = "if" := by
      cases e with
      | give a =>
        obtain ⟨x, zs, rfl, hx, hz⟩ := r12.t
        obtain ⟨q, r, rfl, h1, h2⟩ := repL_cons.mp hz
        rw [rep_str] at h1
        subst h1
        exact ⟨x, 0, rfl, "give", r, hx, n17⟩
      | go f as =>
        obtain ⟨x, zs, rfl, hx, hz⟩ := r12.t
        obtain ⟨q, r, rfl, h1, h2⟩ := repL_cons.mp hz
        rw [rep_str] at h1
        subst h1
        exact ⟨x, 0, rfl, "go", r, hx, n18⟩
      | fail w =>
        obtain ⟨x, zs, rfl, hx, hz⟩ := r12.t
        obtain ⟨q, r, rfl, h1, h2⟩ := repL_cons.mp hz
        rw [rep_str] at h1
        subst h1
        exact ⟨x, 0, rfl, "fail", r, hx, n19⟩
    obtain ⟨x, _, rfl, z, zs, hx, nz⟩ := hd
    refine ⟨_, rfl, x, _, 0, _, rfl, rfl, sqT_of hx, atI_get? (by decide) rfl, rfl, _, rfl, no_S nz ?_⟩
    exact ⟨_, rfl, l, _, rfl, .inl ⟨SqL.of l2, done H2 _ f2 l2 (by rw [List.length_append, ssl]; rfl)⟩⟩
  | iff ss' a b c =>
    have hi' : 1 + max (ifsB b) (ifsB c) ≤ n := hi
    have hl' : ss'.length + 1 + linesB b + linesB c ≤ 1000 := hl
    obtain ⟨n', rfl⟩ : ∃ n', n = n' + 1 := ⟨n - 1, by omega⟩
    obtain ⟨x, zs, rfl, hx, hz⟩ := r12.t
    obtain ⟨q0, q1, q2, q3, rfl, h0, h1, h2, h3⟩ := hz.c4
    rw [rep_str] at h0
    subst h0
    refine ⟨_, rfl, x, _, 0, _, rfl, rfl, sqT_of hx, atI_get? (by decide) rfl, rfl, _, rfl, yes_S ?_⟩
    refine ⟨_, rfl, .inl ⟨rfl, _, SqL.of l2⟩, _, rfl, x, _, 2, _, rfl, rfl, sqT_of hx, atI_get? (by decide) rfl, q2, b, rfl, h2, by omega, by omega, fun H3 t3 x3 f3 g3 e3 => ?_⟩
    have e0 : (ss ++ [V.ref x]).length = ss'.length + 1 := by rw [List.length_append, ssl]; rfl
    refine ⟨l, t3, _, _, rfl, rfl, f3.at l2, sqT_of g3, by rw [e0, e3]; exact sl_le (by omega), ?_⟩
    have g3l := f3.at l2
    have i34 : Imm H2 (upd H3 l (.lst ((ss ++ [V.ref x]) ++ x3))) := f3.imm0.trans (imm_upd (soft_lst g3l))
    have f4 : Fr [] H (upd H3 l (.lst ((ss ++ [V.ref x]) ++ x3))) := (f2.trans f3).put_new hl0
    have l4 : upd H3 l (.lst ((ss ++ [V.ref x]) ++ x3)) l = some (.lst ((ss ++ [V.ref x]) ++ x3)) := upd_same
    have e4 : ((ss ++ [V.ref x]) ++ x3).length = ss'.length + 1 + linesB b := by rw [List.length_append, e0, e3]
    have hx4 := i34.1 _ _ hx
    have h3' := h3.mono i34
    generalize upd H3 l (.lst ((ss ++ [V.ref x]) ++ x3)) = H4 at *
    generalize (ss ++ [V.ref x]) ++ x3 = ls at *
    refine ⟨_, rfl, .inl ⟨rfl, _, SqL.of l4⟩, _, rfl, x, _, 3, _, rfl, rfl, sqT_of hx4, atI_get? (by decide) rfl, q3, c, rfl, h3', by omega, by omega, fun H5 t5 x5 f5 g5 e5 => ?_⟩
    refine ⟨l, t5, _, _, rfl, rfl, f5.at l4, sqT_of g5, by rw [e4, e5]; exact sl_le (by omega), ?_⟩
    have f6 : Fr [] H (upd H5 l (.lst (ls ++ x5))) := (f4.trans f5).put_new hl0
    exact ⟨_, rfl, l, _, rfl, .inl ⟨SqL.of upd_same, done _ _ f6 upd_same (by rw [List.length_append, e4, e5]; rfl)⟩⟩
theorem ok_lines_of (T : TX K mg) : ∀ n, C8.Cal P w K mg base n "lines_of" (spLinesOf n) []
  | 0 => cal_none (P := P) (w := w) (base := base) T.f_lines_of T.g_lines_of (ps := ["block"]) (sp := spLinesOf 0) (fun _ _ _ _ _ _ us hl => match us, hl with | [_], _ => rfl) fun vs H Q E h => h
  | n + 1 => ok_lines_step T (ok_lines_of T n)
end
end FK
/-! FKX2 -/
set_option maxHeartbeats 400000
namespace FK
open PySem PySem.Spec PyProof.Rows L2
open TL (tl)
/-! ### what a check asks -/
def Cnt (H : Hp) (a : Addr) (cts : List (Str × Nat)) : Prop := ∃ ks, H a = some (.dK ks) ∧ ∀ p ∈ cts, valV ks (Sum.inr p.1) = some (.int (p.2 : Int))
def Sco (H : Hp) (a : Addr) (S : List Str) : Prop := ∃ ks, H a = some (.dK ks) ∧ ks.length ≤ S.length ∧ ∀ x, (valV ks (Sum.inr x)).isSome = true ↔ x ∈ S
theorem Cnt.keep {H H' : Hp} {S : List Addr} {a : Addr} {cts : List (Str × Nat)} (h : Cnt H a cts) (f : Fr S H H') (n : a ∉ S) : Cnt H' a cts := by
  obtain ⟨ks, h1, h2⟩ := h
  exact ⟨ks, f.at h1 n, h2⟩
theorem Sco.keep {H H' : Hp} {S : List Addr} {a : Addr} {xs : List Str} (h : Sco H a xs) (f : Fr S H H') (n : a ∉ S) : Sco H' a xs := by
  obtain ⟨ks, h1, h2⟩ := h
  exact ⟨ks, f.at h1 n, h2⟩
def LineOk (cts : List (Str × Nat)) (S : List Str) (l : Line) : Prop := (∀ f, aimL l = some f → (f, (atomsL l).length) ∈ cts) ∧ ∀ x, Atom.of x ∈ atomsL l → x ∈ S
def spCheckLine : Sp := fun vs H Q _ => ∃ (fn : Str) (v : V) (cd sd : Addr) (l : Line) (cts : List (Str × Nat)) (S : List Str), vs = [.str fn, v, .ref cd, .ref sd] ∧ Rep H l.d v ∧ Cnt H cd cts ∧ Sco H sd S ∧ LineOk cts S l ∧ ∀ H', Fr [] H H' → Q .non H'
section
variable {P : Program} {w : World} {K : PySem.W.Frag} {mg : Str → Option Value} {base : Heap}
theorem sc_check_line : FnScope ["function", "line", "counts", "scope", "aim", "atom"] ["function", "line", "counts", "scope"] (defScope s_check_line) := C8.fnScope_by (by decide +kernel)
theorem ok_check_line (T : TX K mg) : C8.Cal P w K mg base 2 "check_line" spCheckLine [] := by
  have c_aim_of : C8.Cal P w K mg base 1 "aim_of" spAimOf [] := ok_aim_of T
  have c_atoms_of : C8.Cal P w K mg base 1 "atoms_of" spAtomsOf [] := ok_atoms_of T
  refine cal_of T.f_check_line T.g_check_line sc_check_line (fun _ _ _ _ _ _ us hl => match us, hl with | [_, _, _, _], _ => rfl) (fun vs H Q E h => ?_) (fun cdv A outer s H vs Q E hr h => ?_)
  · obtain ⟨fn, v, cd, sd, l, cts, S, rfl, _⟩ := h
    rfl
  obtain ⟨fn, v, cd, sd, l, cts, S, rfl, rl, hc, hs, ⟨ok1, ok2⟩, k⟩ := h
  have hu := hu_of hr
  refine ⟨_, (pss_cons (ps_set (i := 4) sc_check_line.nd rfl (by first | exact Or.inl rfl | exact Or.inr rfl) (C8.pe_c c_aim_of hr (by omega) (by rfl) (pa_cons (pv 1) pa_nil)))
      (C8.pss_cut (ps_if (pt_cmpR op_notN (pv 4) pe_non (nomark _)) (pss_cons (ps_if (pt_cmp (pc_dnotin hu (pv 4) (pv 2))) (pss_one ps_never) pss_nil)
      (pss_one (ps_if (pt_cmpR op_ne (pe_dget hu (pv 2) (pv 4) (fun _ _ => rfl)) (pe_callB call_len_seq (by rfl) T.z_len (by decide +kernel) (pa_cons (C8.pe_c c_atoms_of hr (by omega) (by rfl) (pa_cons (pv 1) pa_nil)) pa_nil)) (nomark _)) (pss_one ps_never) pss_nil))) pss_nil)
      (pss_one (ps_for PassesOwn.never rfl (pi_tup (C8.pe_c c_atoms_of hr (by omega) (by rfl) (pa_cons (pv 1) pa_nil))) (pg_name (i := 5) sc_check_line.nd rfl (by first | exact Or.inl rfl | exact Or.inr rfl))
        (pss_one (ps_if (PW.pt (pw_and (pt_cmpR op_eq (pe_ix (r := rIxT K) ix_tup (pv 5) pe_int (fun _ _ => rfl)) pe_str (nomark _)) (pw_and1 (pt_cmp (pc_dnotin hu (pe_ix (r := rIxT K) ix_tup (pv 5) pe_int (fun _ _ => rfl)) (pv 3)))))) (pss_one ps_never) pss_nil)))))), ?_⟩
  refine ⟨_, rfl, v, l, rfl, rl, fun σ H1 => σ = [some (.str fn), some v, some (.ref cd), some (.ref sd), some (aimV (aimL l)), none] ∧ Fr [] H H1, ?_, ?tail⟩
  · obtain ⟨ks, hk, hv⟩ := hc
    cases ha : aimL l with
    | none => exact ⟨_, rfl, rfl, _, rfl, iteF ⟨rfl, Fr.refl _ _⟩⟩
    | some f =>
      have hm := hv _ (ok1 f ha)
      have hk2 : DGet H cd (V.str f) (valV ks (Sum.inr f)) := DGet.k (k := Sum.inr f) hk
      refine ⟨_, rfl, rfl, _, rfl, iteT ⟨_, rfl, _, rfl, cd, _, rfl, hk2, _, rfl, ?_⟩⟩
      rw [hm]
      refine iteF ⟨_, rfl, _, rfl, cd, _, rfl, by rw [← hm]; exact hk2, _, rfl, v, l, rfl, rl, fun H1 va f1 ra => ?_⟩
      obtain ⟨t, xs, rfl, ht, hx⟩ := ra.t
      exact ⟨t, _, rfl, .inr (sqT_of ht), rfl, _, rfl, ifNI (fun ne => absurd (by rw [hx.length, List.length_map]) ne) fun _ => ⟨rfl, f1⟩⟩
  case tail =>
  rintro σ H1 ⟨rfl, f1⟩
  refine ⟨_, rfl, v, l, rfl, rl.mono f1.imm0, fun H2 va f2 ra => ?_⟩
  obtain ⟨t, xs, rfl, ht, hx⟩ := ra.t
  have hs2 := (hs.keep f1 (by simp)).keep f2 (by simp)
  obtain ⟨ks, hk, hkl, hkv⟩ := hs2
  refine ⟨t, rfl, ⟨_, sqT_of ht⟩, ?_⟩
  refine for_tup (K := K) (a := t) (xs := xs) (fun i σ H3 => ∃ vk, σ = [some (.str fn), some v, some (.ref cd), some (.ref sd), some (aimV (aimL l)), vk] ∧ H3 = H2) ⟨none, rfl, rfl⟩ (fun i σ H3 _ ⟨_, _, e⟩ => by rw [e]; exact sqT_of ht) ?_ ?_
  · rintro i x σ H3 hi ⟨vk, rfl, rfl⟩
    obtain ⟨d', hd, hr'⟩ := hx.at hi
    rw [List.getElem?_map] at hd
    obtain ⟨y, hy, rfl⟩ := Option.map_eq_some_iff.mp hd
    have ym := List.mem_of_getElem? hy
    cases y with
    | is d =>
      obtain ⟨q, zs, rfl, hq, hz⟩ := hr'.t
      obtain ⟨y0, y1, rfl, r0, r1⟩ := hz.c2
      rw [rep_str] at r0
      subst r0
      exact ⟨_, rfl, q, _, 0, _, rfl, rfl, sqT_of hq, atI_get? (by decide) rfl, rfl, _, rfl, no_S (by decide +kernel) ⟨_, rfl, rfl⟩⟩
    | of nm =>
      obtain ⟨q, zs, rfl, hq, hz⟩ := hr'.t
      obtain ⟨y0, y1, rfl, r0, r1⟩ := hz.c2
      rw [rep_str] at r0 r1
      subst r0 r1
      have hin := (hkv nm).mpr (ok2 nm ym)
      refine ⟨_, rfl, q, _, 0, _, rfl, rfl, sqT_of hq, atI_get? (by decide) rfl, rfl, _, rfl, yes_S ⟨_, rfl, q, _, 1, _, rfl, rfl, sqT_of hq, atI_get? (by decide) rfl, _, rfl, sd, _, rfl, DGet.k (k := Sum.inr nm) hk, _, rfl, ?_⟩⟩
      rw [hin]
      exact iteF ⟨_, rfl, rfl⟩
  · rintro σ H3 ⟨vk, rfl, rfl⟩
    exact k _ (f1.trans f2)
end
end FK
/-! FKX3 -/
set_option maxHeartbeats 400000
namespace FK
open PySem PySem.Spec PyProof.Rows L2
open TL (tl)
def Step.nm : Step → Str
  | .let_ n _ _ => n
  | .call n _ _ => n
def ctsP (p : Prog) : List (Str × Nat) := p.map fun f => (f.name, f.params.length)
def spCounted : Sp := fun vs H Q _ => ∃ (v : V) (p : Prog), vs = [v] ∧ Rep H (progD p) v ∧ p.length ≤ 1000 ∧ (p.map (·.name)).Nodup ∧ ∀ H' cd, Fr [] H H' → H cd = none → Cnt H' cd (ctsP p) → Q (.ref cd) H'
/-- the steps of a block, one after the other: what is in scope and what is taken -/
def StepsOk (cts : List (Str × Nat)) : List Step → List Str → List Str → Prop
  | [], _, _ => True
  | s :: r, S, Tk => LineOk cts S (.st s) ∧ s.nm ∉ Tk ∧ StepsOk cts r (S ++ [s.nm]) (Tk ++ [s.nm])
def namesB : Block → List Str
  | .leaf ss _ => ss.map Step.nm
  | .iff ss _ b c => ss.map Step.nm ++ (namesB b ++ namesB c)
def BlockOk (cts : List (Str × Nat)) : Block → List Str → List Str → Prop
  | .leaf ss e, S, Tk => StepsOk cts ss S Tk ∧ LineOk cts (S ++ ss.map Step.nm) (.en (.leaf ss e))
  | .iff ss a b c, S, Tk => StepsOk cts ss S Tk ∧ LineOk cts (S ++ ss.map Step.nm) (.en (.iff ss a b c)) ∧ BlockOk cts b (S ++ ss.map Step.nm) (Tk ++ ss.map Step.nm) ∧ BlockOk cts c (S ++ ss.map Step.nm) (Tk ++ ss.map Step.nm ++ namesB b)
theorem Sco.put {H : Hp} {a : Addr} {S : List Str} (h : Sco H a S) (x : Str) (v : V) : ∃ ks, H a = some (.dK ks) ∧ ks.length ≤ S.length ∧ ∀ H', Sco (upd H' a (.dK (putK ks (Sum.inr x) v))) a (S ++ [x]) := by
  obtain ⟨ks, h1, h2, h3⟩ := h
  refine ⟨ks, h1, h2, fun H' => ⟨_, upd_same, ?_, fun y => ?_⟩⟩
  · have := length_putK ks (Sum.inr x) v
    rw [List.length_append]
    show _ ≤ S.length + 1
    omega
  · rw [valV_put, List.mem_append, List.mem_singleton]
    by_cases e : y = x
    · rw [if_pos (by rw [e])]
      exact ⟨fun _ => .inr e, fun _ => rfl⟩
    · rw [if_neg (fun z => e (Sum.inr.inj z)), h3]
      exact ⟨fun z => .inl z, fun z => z.resolve_right e⟩
def spCheckBlock : Nat → Sp
  | 0 => fun _ _ _ _ => False
  | n + 1 => fun vs H Q _ => ∃ (fn : Str) (v : V) (cd sd td : Addr) (b : Block) (cts : List (Str × Nat)) (S Tk : List Str) (H0 : Hp), vs = [.str fn, v, .ref cd, .ref sd, .ref td] ∧ ifsB b ≤ n ∧ Rep H0 b.d v ∧ Fr [] H0 H ∧ H0 td = none ∧ td ≠ cd ∧ td ≠ sd ∧ Cnt H cd cts ∧ Sco H sd S ∧ Sco H td Tk ∧ BlockOk cts b S Tk ∧
    S.length + (namesB b).length ≤ 1000 ∧ Tk.length + (namesB b).length ≤ 1000 ∧ ∀ H', Fr [td] H H' → Sco H' td (Tk ++ namesB b) → Q .non H'
section
variable {P : Program} {w : World} {K : PySem.W.Frag} {mg : Str → Option Value} {base : Heap}
theorem sc_params_counted : FnScope ["program", "counts", "name", "params", "block"] ["program"] (defScope s_params_counted) := C8.fnScope_by (by decide +kernel)
theorem ok_counted (T : TX K mg) : C8.Cal P w K mg base 1 "params_counted" spCounted [] := by
  refine cal_of T.f_params_counted T.g_params_counted sc_params_counted (fun _ _ _ _ _ _ us hl => match us, hl with | [_], _ => rfl) (fun vs H Q E h => ?_) (fun cdv A outer s H vs Q E hr h => ?_)
  · obtain ⟨v, p, rfl, _⟩ := h
    rfl
  obtain ⟨v, p, rfl, rp, hp, nd, k⟩ := h
  have hu := hu_of hr
  refine ⟨_, (pss_cons (ps_set (i := 1) sc_params_counted.nd rfl (by first | exact Or.inl rfl | exact Or.inr rfl) pe_dnewK)
      (pss_cons (ps_for PassesOwn.never rfl (pi_tup (pv 0)) (pg_tup rfl (pgs_cons (pg_name (i := 2) sc_params_counted.nd rfl (by first | exact Or.inl rfl | exact Or.inr rfl)) (pgs_cons (pg_name (i := 3) sc_params_counted.nd rfl (by first | exact Or.inl rfl | exact Or.inr rfl)) (pgs_cons (pg_name (i := 4) sc_params_counted.nd rfl (by first | exact Or.inl rfl | exact Or.inr rfl)) pgs_nil))))
        (pss_cons (ps_if (pt_cmp (pc_din hu (pv 2) (pv 1))) (pss_one ps_never) pss_nil)
      (pss_one (ps_dput hu (pv 1) (pv 2) (pe_callB call_len_seq (by rfl) T.z_len (by decide +kernel) (pa_cons (pv 3) pa_nil)) rfl))))
      (pss_one (ps_ret (pv 1))))), ?_⟩
  obtain ⟨t, xs, rfl, ht, hx⟩ := rp.t
  have xl : xs.length = p.length := by rw [hx.length, List.length_map]
  refine fun cd hcd => ?_
  refine ⟨_, rfl, t, rfl, ⟨_, sqT_of ((Fr.new (S := []) hcd).at ht)⟩, ?_⟩
  refine for_tup (K := K) (a := t) (xs := xs) (fun i σ H1 => ∃ v2 v3 v4 ks, σ = [some (.ref t), some (.ref cd), v2, v3, v4] ∧ Fr [] H H1 ∧ H1 cd = some (.dK ks) ∧ ks.length ≤ i ∧ (∀ f ∈ p.take i, valV ks (Sum.inr f.name) = some (.int (f.params.length : Int))) ∧ ∀ x, x ∉ (p.take i).map (·.name) → valV ks (Sum.inr x) = none)
    ⟨none, none, none, [], rfl, Fr.new hcd, upd_same, Nat.le_refl _, (fun f hf => by cases hf), fun x _ => rfl⟩ (fun i σ H1 _ ⟨_, _, _, _, _, f1, _⟩ => sqT_of (f1.at ht)) ?_ ?_
  · rintro i x σ H1 hi ⟨v2, v3, v4, ks, rfl, f1, g1, g2, g3, g4⟩
    obtain ⟨d', hd, hr'⟩ := hx.at hi
    rw [List.getElem?_map] at hd
    obtain ⟨f, hf, rfl⟩ := Option.map_eq_some_iff.mp hd
    have hil : i < p.length := by
      by_cases z : i < p.length
      · exact z
      · rw [List.getElem?_eq_none (by omega)] at hf; cases hf
    obtain ⟨q, ys, rfl, hq, hy⟩ := (hr'.mono f1.imm0).t
    obtain ⟨y0, y1, y2, rfl, r0, r1, r2⟩ := hy.c3
    rw [rep_str] at r0
    subst r0
    obtain ⟨tp, ps, rfl, htp, hps⟩ := r1.t
    have epl : ps.length = f.params.length := by rw [hps.length, List.length_map]
    have hnew : f.name ∉ (p.take i).map (·.name) := by
      intro z
      have e1 : p.take (i + 1) = p.take i ++ [f] := take_snoc hf
      have nd2 : ((p.take (i + 1)).map (·.name)).Nodup := (List.Sublist.map _ (List.take_sublist _ _)).nodup nd
      rw [e1, List.map_append] at nd2
      exact (List.nodup_append.mp nd2).2.2 _ z _ (by simp) rfl
    have hno := g4 _ hnew
    refine ⟨q, _, rfl, sqT_of hq, rfl, _, _, rfl, _, _, rfl, _, _, rfl, rfl, ?_⟩
    refine ⟨_, rfl, _, rfl, cd, _, rfl, DGet.k (k := Sum.inr f.name) g1, _, rfl, ?_⟩
    rw [hno]
    refine iteF ⟨_, rfl, tp, _, rfl, .inr (sqT_of htp), _, rfl, _, rfl, cd, _, rfl, DPut.k (k := Sum.inr f.name) g1 (sl_lt (by omega)), ?_⟩
    refine ⟨_, _, _, _, rfl, f1.put_new hcd, upd_same, ?_, fun f' hf' => ?_, fun x hx' => ?_⟩
    · have := length_putK ks (Sum.inr f.name) (V.int (ps.length : Int))
      omega
    · rw [valV_put]
      rw [take_snoc hf] at hf'
      rcases List.mem_append.mp hf' with hf' | hf'
      · rw [if_neg (fun z => hnew (by rw [← Sum.inr.inj z]; exact List.mem_map.mpr ⟨f', hf', rfl⟩))]
        exact g3 f' hf'
      · rw [List.mem_singleton.mp hf', if_pos rfl, epl]
    · rw [take_snoc hf, List.map_append, List.mem_append] at hx'
      rw [valV_put, if_neg (fun z => hx' (.inr (by rw [Sum.inr.inj z]; simp)))]
      exact g4 x fun z => hx' (.inl z)
  · rintro σ H1 ⟨v2, v3, v4, ks, rfl, f1, g1, g2, g3, g4⟩
    rw [xl, List.take_length] at g3
    refine ⟨_, rfl, k _ _ f1 hcd ⟨ks, g1, fun q hq => ?_⟩⟩
    obtain ⟨f, hf, rfl⟩ := List.mem_map.mp hq
    exact g3 f hf
end
end FK
/-! FKX4 -/
set_option maxHeartbeats 400000
namespace FK
open PySem PySem.Spec PyProof.Rows L2
open TL (tl)
theorem StepsOk.split {cts : List (Str × Nat)} : ∀ {ss : List Step} {S Tk : List Str}, StepsOk cts ss S Tk → ∀ {i : Nat} {s : Step}, ss[i]? = some s → LineOk cts (S ++ (ss.take i).map Step.nm) (.st s) ∧ s.nm ∉ Tk ++ (ss.take i).map Step.nm
  | [], S, Tk, h, i, s, e => by simp at e
  | x :: r, S, Tk, h, 0, s, e => by
    simp at e
    subst e
    rw [List.take_zero, List.map_nil, List.append_nil, List.append_nil]
    exact ⟨h.1, h.2.1⟩
  | x :: r, S, Tk, h, i + 1, s, e => by
    have h2 := StepsOk.split h.2.2 (i := i) (s := s) (by simpa using e)
    rw [List.take_succ_cons, List.map_cons, List.append_cons, List.append_cons Tk]
    exact h2
theorem BlockOk.steps {cts : List (Str × Nat)} {b : Block} {S Tk : List Str} (h : BlockOk cts b S Tk) : StepsOk cts b.ss S Tk ∧ LineOk cts (S ++ b.ss.map Step.nm) (.en b) := by
  cases b with
  | leaf ss e => exact h
  | iff ss a b c => exact ⟨h.1, h.2.1⟩
theorem namesB_ss (b : Block) : b.ss.length ≤ (namesB b).length := by
  cases b with
  | leaf ss e => rw [namesB, List.length_map]; exact Nat.le_refl _
  | iff ss a b c => rw [namesB, List.length_append, List.length_map]; exact Nat.le_add_right _ _
section
variable {P : Program} {w : World} {K : PySem.W.Frag} {mg : Str → Option Value} {base : Heap}
theorem sc_check_block : FnScope ["function", "block", "counts", "scope", "taken", "steps", "end", "seen", "step"] ["function", "block", "counts", "scope", "taken"] (defScope s_check_block) := C8.fnScope_by (by decide +kernel)
theorem ok_check_block_step (T : TX K mg) {n k : Nat} (hk : 2 ≤ k) (c_check_block : C8.Cal P w K mg base k "check_block" (spCheckBlock n) []) : C8.Cal P w K mg base (k + 1) "check_block" (spCheckBlock (n + 1)) [] := by
  have c_check_line : C8.Cal P w K mg base 2 "check_line" spCheckLine [] := ok_check_line T
  refine cal_of T.f_check_block T.g_check_block sc_check_block (fun _ _ _ _ _ _ us hl => match us, hl with | [_, _, _, _, _], _ => rfl) (fun vs H Q E h => ?_) (fun cdv A outer s H vs Q E hr h => ?_)
  · obtain ⟨fn, v, cd, sd, td, b, cts, S, Tk, H0, rfl, _⟩ := h
    rfl
  obtain ⟨fn, v, cd, sd, td, b, cts, S, Tk, H0, rfl, hi, rb0, f0, ht0, ntc, nts, hc, hs, htk, ok, hl1, hl2, kk⟩ := h
  have hu := hu_of hr
  refine ⟨_, (pss_cons (ps_asg (pv 1) (pg_tup rfl (pgs_cons (pg_name (i := 5) sc_check_block.nd rfl (by first | exact Or.inl rfl | exact Or.inr rfl)) (pgs_cons (pg_name (i := 6) sc_check_block.nd rfl (by first | exact Or.inl rfl | exact Or.inr rfl)) pgs_nil))))
      (pss_cons (ps_set (i := 7) sc_check_block.nd rfl (by first | exact Or.inl rfl | exact Or.inr rfl) (pe_callTy call_dictD (by rfl) T.z_dict (by decide +kernel) (pa_cons (pv 3) pa_nil)))
      (pss_cons (ps_for PassesOwn.never rfl (pi_tup (pv 5)) (pg_name (i := 8) sc_check_block.nd rfl (by first | exact Or.inl rfl | exact Or.inr rfl))
        (pss_cons (ps_expr (C8.pe_c c_check_line hr (by omega) (by rfl) (pa_cons (pv 0) (pa_cons (pv 8) (pa_cons (pv 2) (pa_cons (pv 7) pa_nil))))))
      (pss_cons (ps_if (pt_cmp (pc_din hu (pe_ix (r := rIxT K) ix_tup (pv 8) pe_int (fun _ _ => rfl)) (pv 4))) (pss_one ps_never) pss_nil)
      (pss_cons (ps_dput hu (pv 4) (pe_ix (r := rIxT K) ix_tup (pv 8) pe_int (fun _ _ => rfl)) pe_bl rfl)
      (pss_one (ps_dput hu (pv 7) (pe_ix (r := rIxT K) ix_tup (pv 8) pe_int (fun _ _ => rfl)) pe_bl rfl))))))
      (pss_cons (ps_expr (C8.pe_c c_check_line hr (by omega) (by rfl) (pa_cons (pv 0) (pa_cons (pv 6) (pa_cons (pv 2) (pa_cons (pv 7) pa_nil))))))
      (pss_one (ps_if (pt_cmpR op_eq (pe_ix (r := rIxT K) ix_tup (pv 6) pe_int (fun _ _ => rfl)) pe_str (nomark _)) (pss_cons (ps_expr (C8.pe_c c_check_block hr (by omega) (by rfl) (pa_cons (pv 0) (pa_cons (pe_ix (r := rIxT K) ix_tup (pv 6) pe_int (fun _ _ => rfl)) (pa_cons (pv 2) (pa_cons (pv 7) (pa_cons (pv 4) pa_nil)))))))
      (pss_one (ps_expr (C8.pe_c c_check_block hr (by omega) (by rfl) (pa_cons (pv 0) (pa_cons (pe_ix (r := rIxT K) ix_tup (pv 6) pe_int (fun _ _ => rfl)) (pa_cons (pv 2) (pa_cons (pv 7) (pa_cons (pv 4) pa_nil))))))))) pss_nil)))))), ?_⟩
  rw [b.d_eq] at rb0
  obtain ⟨t, xs, rfl, ht, hx⟩ := rb0.t
  obtain ⟨y0, y1, rfl, r0, r1⟩ := hx.c2
  obtain ⟨ts, ss, rfl, hts, hss⟩ := r0.t
  have ssl : ss.length = b.ss.length := by rw [hss.length, List.length_map]
  have nss := namesB_ss b
  obtain ⟨okS, okE⟩ := ok.steps
  refine ⟨_, rfl, t, _, rfl, sqT_of (f0.at ht), rfl, _, _, rfl, _, _, rfl, rfl, ?_⟩
  obtain ⟨sks, hs1, hs2, hs3⟩ := hs
  refine ⟨_, rfl, sd, sks, rfl, .inl hs1, fun p hp => ?_⟩
  have hp0 : H0 p = none := f0.le (fun b m => by cases m) p hp
  have f1 : Fr [td] H (upd H p (.dK sks)) := Fr.new hp
  have f01 : Fr [] H0 (upd H p (.dK sks)) := f0.trans (Fr.new hp)
  have ntp : td ≠ p := fun z => by obtain ⟨ks, h1, _⟩ := htk; rw [z, hp] at h1; cases h1
  have ncp : cd ≠ p := fun z => by obtain ⟨ks, h1, _⟩ := hc; rw [z, hp] at h1; cases h1
  have hc1 : Cnt (upd H p (.dK sks)) cd cts := hc.keep (S := []) (Fr.new hp) (by simp)
  have htk1 : Sco (upd H p (.dK sks)) td Tk := htk.keep (S := []) (Fr.new hp) (by simp)
  have hse1 : Sco (upd H p (.dK sks)) p S := ⟨sks, upd_same, hs2, hs3⟩
  generalize upd H p (.dK sks) = H1 at *
  refine ⟨_, rfl, ts, rfl, ⟨_, sqT_of (f01.at hts)⟩, ?_⟩
  refine for_tup (K := K) (a := ts) (xs := ss) (fun i σ H2 => ∃ v8, σ = [some (.str fn), some (.ref t), some (.ref cd), some (.ref sd), some (.ref td), some (.ref ts), some y1, some (.ref p), v8] ∧ Fr [td] H H2 ∧ Fr [] H0 H2 ∧ Cnt H2 cd cts ∧ Sco H2 p (S ++ (b.ss.take i).map Step.nm) ∧ Sco H2 td (Tk ++ (b.ss.take i).map Step.nm))
    ⟨none, rfl, f1, f01, hc1, by simpa using hse1, by simpa using htk1⟩ (fun i σ H2 _ ⟨_, _, _, f, _⟩ => sqT_of (f.at hts)) ?_ ?_
  · rintro i x σ H2 hxi ⟨v8, rfl, f2, f02, hc2, hse2, htk2⟩
    obtain ⟨d', hd, hr'⟩ := hss.at hxi
    rw [List.getElem?_map] at hd
    obtain ⟨st, hst, rfl⟩ := Option.map_eq_some_iff.mp hd
    obtain ⟨lo, nin⟩ := okS.split hst
    have hil : i < b.ss.length := by
      by_cases z : i < b.ss.length
      · exact z
      · rw [List.getElem?_eq_none (by omega)] at hst; cases hst
    have rs := hr'.mono f02.imm0
    obtain ⟨q, y, r, rfl, hq⟩ : ∃ (q : Addr) (y : V) (r : List V), x = .ref q ∧ H2 q = some (.tup (y :: V.str st.nm :: r)) := by
      cases st with
      | let_ nm op as =>
        obtain ⟨q, ys, rfl, hq, hy⟩ := rs.t
        obtain ⟨y0, y1, y2, y3, rfl, r0, r1, r2, r3⟩ := hy.c4
        rw [rep_str] at r1
        subst r1
        exact ⟨q, _, _, rfl, hq⟩
      | call nm f as =>
        obtain ⟨q, ys, rfl, hq, hy⟩ := rs.t
        obtain ⟨y0, y1, y2, y3, rfl, r0, r1, r2, r3⟩ := hy.c4
        rw [rep_str] at r1
        subst r1
        exact ⟨q, _, _, rfl, hq⟩
    refine ⟨_, rfl, _, rfl, _, rfl, _, rfl, fn, .ref q, cd, p, .st st, cts, _, rfl, rs, hc2, hse2, lo, fun H3 f3 => ?_⟩
    have hq3 := f3.at hq
    have hse3 := hse2.keep f3 (by simp)
    have htk3 := htk2.keep f3 (by simp)
    have hc3 := hc2.keep f3 (by simp)
    obtain ⟨tks, g1, g2, g3⟩ := htk3.put st.nm (.bl true)
    obtain ⟨tks', g1', g2', g4⟩ := htk3
    have etk : tks' = tks := by rw [g1] at g1'; injection g1' with z; injection z with z; exact z.symm
    subst etk
    refine ⟨_, rfl, q, _, 1, _, rfl, rfl, sqT_of hq3, atI_get? (by decide) rfl, _, rfl, td, _, rfl, DGet.k (k := Sum.inr st.nm) g1, _, rfl, ?_⟩
    have hno : (valV tks' (Sum.inr st.nm)).isSome = false := by
      cases z : (valV tks' (Sum.inr st.nm)).isSome with
      | false => rfl
      | true => exact absurd ((g4 _).mp z) nin
    rw [hno]
    have lt1 : ((b.ss.take i).map Step.nm).length ≤ (namesB b).length := by rw [List.length_map, List.length_take]; omega
    rw [List.length_append] at g2
    refine iteF ⟨_, rfl, _, rfl, q, _, 1, _, rfl, rfl, sqT_of hq3, atI_get? (by decide) rfl, td, _, rfl, DPut.k (k := Sum.inr st.nm) g1 (sl_lt (by omega)), ?_⟩
    have g5 := g3 H3
    have nqt : q ≠ td := fun z => by rw [z, g1] at hq3; cases hq3
    have hq4 := (upd_ne (o := .dK (putK tks' (Sum.inr st.nm) (V.bl true))) nqt).trans hq3
    have hse4 := hse3.keep (S := [td]) (H' := upd H3 td (.dK (putK tks' (Sum.inr st.nm) (V.bl true)))) (Fr.put (by simp)) (by simp; exact ntp.symm)
    have hc4 := hc3.keep (S := [td]) (H' := upd H3 td (.dK (putK tks' (Sum.inr st.nm) (V.bl true)))) (Fr.put (by simp)) (by simp; exact ntc.symm)
    have f4 : Fr [td] H (upd H3 td (.dK (putK tks' (Sum.inr st.nm) (V.bl true)))) := (f2.trans (Fr.mono f3 (by simp))).trans (Fr.put (by simp))
    have f04 : Fr [] H0 (upd H3 td (.dK (putK tks' (Sum.inr st.nm) (V.bl true)))) := (f02.trans f3).put_new ht0
    generalize upd H3 td (.dK (putK tks' (Sum.inr st.nm) (V.bl true))) = H4 at *
    obtain ⟨sk4, s1, s2, s3⟩ := hse4.put st.nm (.bl true)
    rw [List.length_append] at s2
    refine ⟨_, rfl, _, rfl, q, _, 1, _, rfl, rfl, sqT_of hq4, atI_get? (by decide) rfl, p, _, rfl, DPut.k (k := Sum.inr st.nm) s1 (sl_lt (by omega)), ?_⟩
    refine ⟨_, rfl, f4.put_new hp, f04.put_new hp0, hc4.keep (S := [p]) (Fr.put (by simp)) (by simp; exact ncp), ?_, ?_⟩
    · have := s3 H4
      rw [take_snoc hst, List.map_append, ← List.append_assoc]
      exact this
    · rw [take_snoc hst, List.map_append, ← List.append_assoc]
      exact g5.keep (S := [p]) (Fr.put (by simp)) (by simp; exact ntp)
  rintro σ H2 ⟨v8, rfl, f2, f02, hc2, hse2, htk2⟩
  rw [ssl, List.take_length] at hse2 htk2
  refine ⟨_, rfl, _, rfl, _, rfl, _, rfl, fn, y1, cd, p, .en b, cts, _, rfl, r1.mono f02.imm0, hc2, hse2, okE, fun H3 f3 => ?_⟩
  have hse3 := hse2.keep f3 (by simp)
  have htk3 := htk2.keep f3 (by simp)
  have hc3 := hc2.keep f3 (by simp)
  have f03 := f02.trans f3
  have f23 : Fr [td] H H3 := f2.trans (Fr.mono f3 (by simp))
  have r13 := r1.mono f03.imm0
  obtain ⟨n1, n2, n3, n4, n5, n6, n7, n8, n9, n10, n11, n12, n13, n14, n15, n16, n17, n18, n19⟩ := ne_kinds
  cases b with
  | leaf ss' e =>
    have hd : ∃ (x : Addr), y1 = .ref x ∧ ∃ (z : Str) (zs : List V), H3 x = some (.tup (V.str z :: zs)) ∧ ¬ z = "if" := by
      cases e with
      | give a =>
        obtain ⟨x, zs, rfl, hx, hz⟩ := r13.t
        obtain ⟨q, r, rfl, h1, h2⟩ := repL_cons.mp hz
        rw [rep_str] at h1
        subst h1
        exact ⟨x, rfl, "give", r, hx, n17⟩
      | go f as =>
        obtain ⟨x, zs, rfl, hx, hz⟩ := r13.t
        obtain ⟨q, r, rfl, h1, h2⟩ := repL_cons.mp hz
        rw [rep_str] at h1
        subst h1
        exact ⟨x, rfl, "go", r, hx, n18⟩
      | fail w =>
        obtain ⟨x, zs, rfl, hx, hz⟩ := r13.t
        obtain ⟨q, r, rfl, h1, h2⟩ := repL_cons.mp hz
        rw [rep_str] at h1
        subst h1
        exact ⟨x, rfl, "fail", r, hx, n19⟩
    obtain ⟨x, rfl, z, zs, hx, nz⟩ := hd
    exact ⟨_, rfl, x, _, 0, _, rfl, rfl, sqT_of hx, atI_get? (by decide) rfl, rfl, _, rfl, no_S nz (kk _ f23 htk3)⟩
  | iff ss' a b c =>
    have hi' : 1 + max (ifsB b) (ifsB c) ≤ n := hi
    obtain ⟨n', rfl⟩ : ∃ n', n = n' + 1 := ⟨n - 1, by omega⟩
    obtain ⟨okS', okE', okb, okc⟩ := ok
    obtain ⟨x, zs, rfl, hx0, hz⟩ := r1.t
    obtain ⟨q0, q1, q2, q3, rfl, h0, h1, h2, h3⟩ := hz.c4
    rw [rep_str] at h0
    subst h0
    have hx3 := f03.at hx0
    have ln : (namesB (.iff ss' a b c)).length = (ss'.map Step.nm).length + ((namesB b).length + (namesB c).length) := by rw [namesB, List.length_append, List.length_append]
    rw [ln] at hl1 hl2
    have npt : p ≠ td := ntp.symm
    refine ⟨_, rfl, x, _, 0, _, rfl, rfl, sqT_of hx3, atI_get? (by decide) rfl, rfl, _, rfl, yes_S ?_⟩
    refine ⟨_, rfl, _, rfl, x, _, 2, _, rfl, rfl, sqT_of hx3, atI_get? (by decide) rfl, _, rfl, _, rfl, _, rfl, fn, q2, cd, p, td, b, cts, _, _, H0, rfl, by omega, h2, f03, ht0, ntc, ntp, hc3, hse3, htk3, okb, by rw [List.length_append]; show _ + (ss'.map Step.nm).length + _ ≤ _; omega, by rw [List.length_append]; show _ + (ss'.map Step.nm).length + _ ≤ _; omega, fun H4 f4 htk4 => ?_⟩
    have f04 : Fr [] H0 H4 := Fr.forget f03 f4 fun b m => by rw [List.mem_singleton.mp m]; exact .inr ht0
    have hse4 := hse3.keep f4 (by simp; exact npt)
    have hc4 := hc3.keep f4 (by simp; exact ntc.symm)
    have hx4 := f04.at hx0
    refine ⟨_, rfl, _, rfl, x, _, 3, _, rfl, rfl, sqT_of hx4, atI_get? (by decide) rfl, _, rfl, _, rfl, _, rfl, fn, q3, cd, p, td, c, cts, _, _, H0, rfl, by omega, h3, f04, ht0, ntc, ntp, hc4, hse4, htk4, okc, by rw [List.length_append]; show _ + (ss'.map Step.nm).length + _ ≤ _; omega, by rw [List.length_append, List.length_append]; show _ + (ss'.map Step.nm).length + _ + _ ≤ _; omega, fun H5 f5 htk5 => ?_⟩
    refine kk _ (f23.trans (f4.trans f5)) ?_
    rw [namesB]
    rw [List.append_assoc, List.append_assoc] at htk5
    exact htk5
theorem ok_check_block (T : TX K mg) : ∀ n, C8.Cal P w K mg base (2 + n) "check_block" (spCheckBlock n) []
  | 0 => by
    obtain ⟨f, fd, ps, ds, F, a, b, c, d⟩ := (cal_none (P := P) (w := w) (base := base) T.f_check_block T.g_check_block (ps := ["function", "block", "counts", "scope", "taken"]) (sp := spCheckBlock 0) (fun _ _ _ _ _ _ us hl => match us, hl with | [_, _, _, _, _], _ => rfl) fun vs H Q E h => h).ex
    exact ⟨f, fd, ps, ds, F.mono (by decide), a, b, c, d⟩
  | n + 1 => ok_check_block_step T (Nat.le_add_right 2 n) (ok_check_block T n)
end
end FK
/-! FKX5 -/
set_option maxHeartbeats 400000
namespace FK
open PySem PySem.Spec PyProof.Rows L2
open TL (tl)
def FnSound (cts : List (Str × Nat)) (f : Fn) : Prop := f.params.Nodup ∧ f.params.length + (namesB f.body).length ≤ 1000 ∧ BlockOk cts f.body f.params f.params
def Sound (p : Prog) : Prop := (p.map (·.name)).Nodup ∧ p.length ≤ 200 ∧ ∀ f ∈ p, ifsB f.body ≤ 8 ∧ FnSound (ctsP p) f
def spCheck : Sp := fun vs H Q _ => ∃ (v : V) (p : Prog), vs = [v] ∧ Rep H (progD p) v ∧ Sound p ∧ ∀ H', Fr [] H H' → Q .non H'
section
variable {P : Program} {w : World} {K : PySem.W.Frag} {mg : Str → Option Value} {base : Heap}
theorem sc_check : FnScope ["program", "counts", "name", "params", "block", "scope", "param"] ["program"] (defScope s_check) := C8.fnScope_by (by decide +kernel)
theorem ok_check (T : TX K mg) : C8.Cal P w K mg base 12 "check" spCheck [] := by
  have c_params_counted : C8.Cal P w K mg base 1 "params_counted" spCounted [] := ok_counted T
  have c_check_block : C8.Cal P w K mg base 11 "check_block" (spCheckBlock 9) [] := ok_check_block T 9
  refine cal_of T.f_check T.g_check sc_check (fun _ _ _ _ _ _ us hl => match us, hl with | [_], _ => rfl) (fun vs H Q E h => ?_) (fun cdv A outer s H vs Q E hr h => ?_)
  · obtain ⟨v, p, rfl, _⟩ := h
    rfl
  obtain ⟨v, p, rfl, rp, ⟨nd, hp, hf⟩, k⟩ := h
  have hu := hu_of hr
  refine ⟨_, (pss_cons (ps_set (i := 1) sc_check.nd rfl (by first | exact Or.inl rfl | exact Or.inr rfl) (C8.pe_c c_params_counted hr (by omega) (by rfl) (pa_cons (pv 0) pa_nil)))
      (pss_one (ps_for PassesOwn.never rfl (pi_tup (pv 0)) (pg_tup rfl (pgs_cons (pg_name (i := 2) sc_check.nd rfl (by first | exact Or.inl rfl | exact Or.inr rfl)) (pgs_cons (pg_name (i := 3) sc_check.nd rfl (by first | exact Or.inl rfl | exact Or.inr rfl)) (pgs_cons (pg_name (i := 4) sc_check.nd rfl (by first | exact Or.inl rfl | exact Or.inr rfl)) pgs_nil))))
        (pss_cons (ps_set (i := 5) sc_check.nd rfl (by first | exact Or.inl rfl | exact Or.inr rfl) pe_dnewK)
      (pss_cons (ps_for PassesOwn.never rfl (pi_tup (pv 3)) (pg_name (i := 6) sc_check.nd rfl (by first | exact Or.inl rfl | exact Or.inr rfl))
        (pss_cons (ps_if (pt_cmp (pc_din hu (pv 6) (pv 5))) (pss_one ps_never) pss_nil)
      (pss_one (ps_dput hu (pv 5) (pv 6) pe_bl rfl))))
      (pss_one (ps_expr (C8.pe_c c_check_block hr (by omega) (by rfl) (pa_cons (pv 2) (pa_cons (pv 4) (pa_cons (pv 1) (pa_cons (pv 5) (pa_cons (pe_callTy call_dictD (by rfl) T.z_dict (by decide +kernel) (pa_cons (pv 5) pa_nil)) pa_nil))))))))))))), ?_⟩
  obtain ⟨t, xs, rfl, ht, hx⟩ := rp.t
  refine ⟨_, rfl, .ref t, p, rfl, rp, by omega, nd, fun H1 cd f1 hcd hc1 => ?_⟩
  refine ⟨_, rfl, t, rfl, ⟨_, sqT_of (f1.at ht)⟩, ?_⟩
  refine for_tup (K := K) (a := t) (xs := xs) (fun i σ H2 => ∃ v2 v3 v4 v5 v6, σ = [some (.ref t), some (.ref cd), v2, v3, v4, v5, v6] ∧ Fr [] H H2 ∧ Cnt H2 cd (ctsP p)) ⟨none, none, none, none, none, rfl, f1, hc1⟩ (fun i σ H2 _ ⟨_, _, _, _, _, _, f, _⟩ => sqT_of (f.at ht)) ?_ ?_
  · rintro i x σ H2 hxi ⟨v2, v3, v4, v5, v6, rfl, f2, hc2⟩
    obtain ⟨d', hd, hr'⟩ := hx.at hxi
    rw [List.getElem?_map] at hd
    obtain ⟨f, hfi, rfl⟩ := Option.map_eq_some_iff.mp hd
    obtain ⟨ifs, pnd, plen, bok⟩ := hf f (List.mem_of_getElem? hfi)
    obtain ⟨q, ys, rfl, hq, hy⟩ := hr'.t
    obtain ⟨y0, y1, y2, rfl, r0, r1, r2⟩ := hy.c3
    rw [rep_str] at r0
    subst r0
    obtain ⟨tp, ps, rfl, htp, hps⟩ := r1.t
    have eps := repL_strs_eq hps
    subst eps
    refine ⟨q, _, rfl, sqT_of (f2.at hq), rfl, _, _, rfl, _, _, rfl, _, _, rfl, rfl, ?_⟩
    refine fun sd hsd => ?_
    have ncs : cd ≠ sd := fun z => by obtain ⟨ks, h1, _⟩ := hc2; rw [z, hsd] at h1; cases h1
    have hsd0 : H sd = none := f2.le (fun b m => by cases m) sd hsd
    refine ⟨_, rfl, tp, rfl, ⟨_, sqT_of ((Fr.new (S := []) hsd).at (f2.at htp))⟩, ?_⟩
    refine for_tup (K := K) (a := tp) (xs := f.params.map V.str) (fun j σ H3 => ∃ v6, σ = [some (.ref t), some (.ref cd), some (.str f.name), some (.ref tp), some y2, some (.ref sd), v6] ∧ Fr [] H H3 ∧ Cnt H3 cd (ctsP p) ∧ Sco H3 sd (f.params.take j))
      ⟨v6, rfl, f2.trans (Fr.new hsd), hc2.keep (S := []) (Fr.new hsd) (by simp), [], upd_same, Nat.le_refl _, fun x => by simp [valV_nil]⟩ (fun j σ H3 _ ⟨_, _, g, _⟩ => sqT_of (g.at htp)) ?_ ?_
    · rintro j x σ H3 hxj ⟨v6, rfl, f3, hc3, hs3⟩
      rw [List.getElem?_map] at hxj
      obtain ⟨nm, hnm, rfl⟩ := Option.map_eq_some_iff.mp hxj
      have hnew : nm ∉ f.params.take j := fun z => by
        have nd2 : (f.params.take (j + 1)).Nodup := (List.take_sublist _ _).nodup pnd
        rw [take_snoc hnm] at nd2
        exact (List.nodup_append.mp nd2).2.2 _ z _ (by simp) rfl
      obtain ⟨ks, g1, g2, g3⟩ := hs3.put nm (.bl true)
      obtain ⟨ks', g1', g2', g4⟩ := hs3
      have etk : ks' = ks := by rw [g1] at g1'; injection g1' with z; injection z with z; exact z.symm
      subst etk
      have hno : (valV ks' (Sum.inr nm)).isSome = false := by
        cases z : (valV ks' (Sum.inr nm)).isSome with
        | false => rfl
        | true => exact absurd ((g4 _).mp z) hnew
      refine ⟨_, rfl, _, rfl, sd, _, rfl, DGet.k (k := Sum.inr nm) g1, _, rfl, ?_⟩
      rw [hno]
      rw [List.length_take] at g2
      refine iteF ⟨_, rfl, _, rfl, sd, _, rfl, DPut.k (k := Sum.inr nm) g1 (sl_lt (by omega)), _, rfl, f3.put_new hsd0, hc3.keep (S := [sd]) (Fr.put (by simp)) (by simp; exact ncs), ?_⟩
      rw [take_snoc hnm]
      exact g3 H3
    · rintro σ H3 ⟨v6, rfl, f3, hc3, hs3⟩
      rw [List.length_map, List.take_length] at hs3
      obtain ⟨ks, g1, g2, g3⟩ := hs3
      refine ⟨_, rfl, _, rfl, _, rfl, _, rfl, _, rfl, sd, ks, rfl, .inl g1, fun td htd => ?_⟩
      have ntc : td ≠ cd := fun z => by obtain ⟨ks, h1, _⟩ := hc3; rw [← z, htd] at h1; cases h1
      have nts : td ≠ sd := fun z => by rw [z, g1] at htd; cases htd
      have htd0 : H td = none := f3.le (fun b m => by cases m) td htd
      refine ⟨f.name, y2, cd, sd, td, f.body, ctsP p, f.params, f.params, H, rfl, ifs, r2, f3.trans (Fr.new htd), htd0, ntc, nts, hc3.keep (S := []) (Fr.new htd) (by simp), ⟨ks, (Fr.new (S := []) htd).at g1, g2, g3⟩, ⟨ks, upd_same, g2, g3⟩, bok, plen, plen, fun H4 f4 _ => ?_⟩
      exact ⟨_, _, _, _, _, rfl, Fr.forget f3 ((Fr.new htd).trans f4) (fun b m => by rw [List.mem_singleton.mp m]; exact .inr htd0), (hc3.keep (S := []) (Fr.new htd) (by simp)).keep f4 (by simp; exact ntc.symm)⟩
  · rintro σ H2 ⟨v2, v3, v4, v5, v6, rfl, f2, hc2⟩
    exact k H2 f2
end
end FK
/-! FKX6 -/
set_option maxHeartbeats 400000
namespace FK
open PySem PySem.Spec PyProof.Rows L2
open TL (tl)
def headW (f : Fn) : List Str := ("fun" : Str) :: f.name :: f.params
def spReadFn (K : PySem.W.Frag) : Sp := fun vs H Q _ => ∃ (a pr : Addr) (f : Fn) (pre post : List Str), vs = [.ref a] ∧ RWS K H a pr pre (rowsF f ++ post) ∧ WfF f ∧ SrtB f.body ∧ ∀ H' v pre', Fr [a] H H' → RWS K H' a pr pre' post → Rep H' f.d v → Q v H'
section
variable {P : Program} {w : World} {K : PySem.W.Frag} {mg : Str → Option Value} {base : Heap}
theorem sc_read_function : FnScope ["rows", "words", "names", "block", "word"] ["rows"] (defScope s_read_function) := C8.fnScope_by (by decide +kernel)
theorem ok_read_function (T : TX K mg) : C8.Cal P w K mg base 155 "read_function" (spReadFn K) [] := by
  have m_words : C8.Met P w K mg base 2 (He.ga K "Rows") "words" (spWordsR K) [] := ok_words T
  have c_name_of : C8.Cal P w K mg base 3 "name_of" spNameOf [] := ok_name_of T
  have c_read_block : C8.Cal P w K mg base 154 "read_block" (spReadBlock K 8) [] := ok_read_block T 8
  have c_lines_of : C8.Cal P w K mg base 9 "lines_of" (spLinesOf 9) [] := ok_lines_of T 9
  refine cal_of T.f_read_function T.g_read_function sc_read_function (fun _ _ _ _ _ _ us hl => match us, hl with | [_], _ => rfl) (fun vs H Q E h => ?_) (fun cdv A outer s H vs Q E hr h => ?_)
  · obtain ⟨a, pr, f, pre, post, rfl, _⟩ := h
    rfl
  obtain ⟨a, pr, f, pre, post, rfl, hrw, ⟨w1, w2, w3, w4, w5, w6⟩, sb, kk⟩ := h
  refine ⟨_, (pss_cons (ps_set (i := 1) sc_read_function.nd rfl (by first | exact Or.inl rfl | exact Or.inr rfl) (C8.pe_mt0 m_words hr (by omega) (pv 0)))
      (pss_cons (ps_if (PW.pt (pw_or (pt_cmpR op_ne (pe_ix (r := rIxL K) ix_list (pv 1) pe_int (fun _ _ => rfl)) pe_str (nomark _)) (pw_or1 (pt_not (pt_chain op_le op_le pe_int (pe_callB call_len_seq (by rfl) T.z_len (by decide +kernel) (pa_cons (pv 1) pa_nil)) (pe_op op_add pe_int (C8.pe_gc (by rfl) T.c_MOST_PARAMS))))))) (pss_one ps_never) pss_nil)
      (pss_cons (ps_setLc (i := 2) (own := [("word", 4)]) (by rfl) sc_read_function.nd rfl rfl (sw_true rfl rfl rfl (by decide +kernel)) (pi_list (pe_slice sl_list (pv 1) (po_some pe_int) po_none)) (blkOk_by (own := [("word", 4)]) (N := ["rows", "words", "names", "block", "word"]) (sc := defScope s_read_function) (by decide +kernel)) (fun _ _ _ _ _ => (pg_name (i := 4) sc_read_function.nd rfl (by first | exact Or.inl rfl | exact Or.inr rfl))) (fun _ _ _ _ _ => pts_nil) (fun _ _ _ _ _ => (C8.pe_c c_name_of hr (by omega) (by rfl) (pa_cons (pv 4) pa_nil))))
      (pss_cons (ps_set (i := 3) sc_read_function.nd rfl (by first | exact Or.inl rfl | exact Or.inr rfl) (C8.pe_c c_read_block hr (by omega) (by rfl) (pa_cons (pv 0) (pa_cons pe_int pa_nil))))
      (pss_cons (ps_if (pt_cmpR op_gt (pe_callB call_len_seq (by rfl) T.z_len (by decide +kernel) (pa_cons (C8.pe_c c_lines_of hr (by omega) (by rfl) (pa_cons (pv 3) pa_nil)) pa_nil)) (C8.pe_gc (by rfl) T.c_MOST_LINES) (nomark _)) (pss_one ps_never) pss_nil)
      (pss_one (ps_ret (pe_tup (pa_cons (pe_ix (r := rIxL K) ix_list (pv 2) pe_int (fun _ _ => rfl)) (pa_cons (pe_callTy call_tuple_of (by rfl) T.z_tuple (by decide +kernel) (pa_cons (pe_slice sl_list (pv 2) (po_some pe_int) po_none) pa_nil)) (pa_cons (pv 3) pa_nil))))))))))), ?_⟩
  have cl : Clean (headW f) := clean_cons (clean_lits _ (by simp)) (clean_cons (name_ge w1) fun x hx => name_ge (w3 x hx))
  have hrw' : RWS K H a pr pre (joinW (headW f) :: (rowsB f.body ++ post)) := hrw
  obtain ⟨h1, h0, dx, h2, h3⟩ := id hrw'
  refine ⟨_, rfl, a, dx, _, rfl, h2, (rw_meths _ _).2, a, pr, pre, _, headW f, rfl, hrw', (fun z => by cases z), cl.no32, fun H1 p pre1 f1 rw1 hp hpn => ?_⟩
  have lw : ((headW f).map V.str).length = f.params.length + 2 := by rw [List.length_map]; rfl
  refine ⟨_, rfl, p, _, 0, _, rfl, rfl, SqL.of hp, atI_get? (by decide) rfl, rfl, _, rfl, ifNS (fun ne => absurd rfl ne) fun _ => ?_⟩
  refine ⟨_, rfl, p, _, rfl, .inl (SqL.of hp), _, _, rfl, rfl, _, rfl, ifB (fun c1 => ⟨_, _, rfl, rfl, _, _, rfl, rfl, _, rfl, ifNB (fun c2 => absurd (by rw [lw]; omega) c2) fun _ => ?_⟩) fun c1 => absurd (by rw [lw]; omega) c1⟩
  have ec : ∀ HH : Hp, ∀ q, upd HH q (.lst (cutV ((headW f).map V.str) (some 1) none)) q = some (.lst ((f.name :: f.params).map V.str)) := fun HH q => by
    rw [upd_same, show (some (1 : Int)) = some ((1 : Nat) : Int) from rfl, cut_drop (by rw [lw]; omega)]
    rfl
  refine ⟨_, rfl, 1, rfl, p, _, rfl, SqL.of hp, fun q hq => ⟨q, rfl, ⟨_, SqL.of (ec _ _)⟩, fun C hC => ?_⟩⟩
  have e2 := ec H1 q
  have f12 : Fr [] H1 (upd H1 q (.lst (cutV ((headW f).map V.str) (some 1) none))) := Fr.new hq
  generalize upd H1 q (.lst (cutV ((headW f).map V.str) (some 1) none)) = H2 at *
  have hnm : ∀ x ∈ f.name :: f.params, IsName x := fun x hx => by
    rcases List.mem_cons.mp hx with e | hx
    · rw [e]; exact w1
    · exact w3 x hx
  refine lc_list (K := K) (a := q) (xs := (f.name :: f.params).map V.str) (fun i H3 => Fr [] H2 H3 ∧ H3 C = some (.lst (((f.name :: f.params).take i).map V.str))) ⟨Fr.new hC, upd_same⟩ (fun i H3 _ ⟨g1, _⟩ => SqL.of (g1.at e2)) (fun i x H3 hi ⟨g1, g2⟩ => ?_) (fun H3 ⟨g1, g2⟩ => ?_)
  · rw [List.getElem?_map] at hi
    obtain ⟨z, hz, rfl⟩ := Option.map_eq_some_iff.mp hi
    refine ⟨rfl, _, rfl, z, rfl, hnm z (List.mem_of_getElem? hz), _, g2, ?_, g1.put_new hC, ?_⟩
    · rw [List.length_map, List.length_take, List.length_cons]
      exact sl_lt (by omega)
    · rw [upd_same, take_snoc hz, List.map_append]
      rfl
  rw [List.length_map, List.take_length] at g2
  have f13 := f12.trans g1
  have rw3 := rw1.keep f13 (by simp) (by simp)
  have nCa : C ≠ a := fun z => by
    have := (rw1.keep f12 (by simp) (by simp)).ne.1
    exact this (by rw [← z]; exact hC)
  refine ⟨_, rfl, a, pr, f.body, pre1, post, rfl, by decide, rw3, w4, sb, w5, fun H4 v pre4 f4 rw4 rb => ?_⟩
  have g4 := f4.at g2 (by simp; exact nCa)
  refine ⟨_, rfl, v, f.body, rfl, rb, w5, by omega, fun H5 t5 x5 f5 h5 l5 => ⟨t5, _, rfl, .inr (sqT_of h5), _, _, rfl, rfl, _, rfl, ifB (fun q => absurd q (by rw [l5]; omega)) fun _ => ?_⟩⟩
  have g5 := f5.at g4
  have ec2 : ∀ HH : Hp, ∀ q, upd HH q (.lst (cutV ((f.name :: f.params).map V.str) (some 1) none)) q = some (.lst (f.params.map V.str)) := fun HH q => by
    rw [upd_same, show (some (1 : Int)) = some ((1 : Nat) : Int) from rfl, cut_drop (by rw [List.length_map, List.length_cons]; omega)]
    rfl
  refine ⟨_, rfl, C, _, 0, _, rfl, rfl, SqL.of g5, atI_get? (by decide) rfl, _, rfl, 1, rfl, C, _, rfl, SqL.of g5, fun q6 hq6 => ⟨q6, _, rfl, .inl ⟨SqL.of (ec2 _ _), fun t7 ht7 => ⟨_, rfl, sl3, fun t8 ht8 => ?_⟩⟩⟩⟩
  have fz := fun o => f5.trans ((Fr.new (o := .lst (cutV ((f.name :: f.params).map V.str) (some 1) none)) hq6).trans ((Fr.new (o := .tup (f.params.map V.str)) ht7).trans (Fr.new (S := []) (o := o) ht8)))
  refine kk _ _ pre4 (f1.trans ((Fr.mono f13 (by simp)).trans (f4.trans (Fr.mono (fz _) (by simp))))) (rw4.keep (fz _) (by simp) (by simp)) ?_
  exact rep_new ht8 (.cons .str (.cons (rep_new ht7 (repL_strs _)) (.one (((rb.mono f5.imm0).new hq6).new ht7))))
end
end FK
/-! FKX7 -/
set_option maxHeartbeats 400000
namespace FK
open PySem PySem.Spec PyProof.Rows L2
open TL (tl)
def spRead : Sp := fun vs H Q _ => ∃ p : Prog, vs = [.str (textP p)] ∧ WfP p ∧ (∀ f ∈ p, SrtB f.body) ∧ Sound p ∧ ∀ H' v, Fr [] H H' → Rep H' (progD p) v → Q v H'
def NoLine (x : Str) : Prop := ∀ c ∈ tl x, 32 ≤ c
theorem join_noline {ws : List Str} (h : Clean ws) : NoLine (joinW ws) := fun c hc => by
  unfold joinW at hc
  rw [tl_join, show tl (" " : Str) = [32] by decide +kernel] at hc
  rcases joinL_mem hc with hc | ⟨p, hp, hc⟩
  · rw [List.mem_singleton.mp hc]; decide
  · obtain ⟨x, hx, rfl⟩ := List.mem_map.mp hp
    have := h x hx c hc
    omega
theorem rowsB_noline : ∀ {b : Block}, WfB b → ∀ r ∈ rowsB b, NoLine r
  | .leaf ss e, h, r, hr => by
    rw [rowsB] at hr
    rcases List.mem_append.mp hr with hr | hr
    · obtain ⟨s, hs, rfl⟩ := List.mem_map.mp hr
      rw [step_join]
      exact join_noline (clean_step (h.1 s hs))
    · rw [List.mem_singleton.mp hr, leaf_join]
      exact join_noline (clean_leaf h.2)
  | .iff ss a b c, h, r, hr => by
    obtain ⟨h1, h2, h3, h4⟩ := h
    simp only [rowsB, List.mem_append, List.mem_singleton] at hr
    have one : ∀ x ∈ [("else" : Str), "end"], NoLine x := by
      unfold NoLine
      decide +kernel
    rcases hr with ((((hr | hr) | hr) | hr) | hr) | hr
    · obtain ⟨s, hs, rfl⟩ := List.mem_map.mp hr
      rw [step_join]
      exact join_noline (clean_step (h1 s hs))
    · rw [hr]
      exact join_noline (clean_cons (clean_lits _ (by simp)) (clean_atoms fun x hx => by rw [List.mem_singleton.mp hx]; exact h2))
    · exact rowsB_noline h3 r hr
    · rw [hr]; exact one _ (by simp)
    · exact rowsB_noline h4 r hr
    · rw [hr]; exact one _ (by simp)
theorem rowsP_noline {p : Prog} (h : WfP p) : ∀ r ∈ rowsP p, NoLine r := fun r hr => by
  obtain ⟨f, hf, hr⟩ := List.mem_flatMap.mp hr
  have w := h.1 f hf
  rcases List.mem_cons.mp hr with e | hr
  · rw [e]
    exact join_noline (ws := headW f) (clean_cons (clean_lits _ (by simp)) (clean_cons (name_ge w.1) fun x hx => name_ge (w.2.2.1 x hx)))
  · exact rowsB_noline w.2.2.2.1 r hr
section
variable {P : Program} {w : World} {K : PySem.W.Frag} {mg : Str → Option Value} {base : Heap}
theorem sc_Rows_init : FnScope ["self", "text"] ["self", "text"] (defScope s_Rows_init) := C8.fnScope_by (by decide +kernel)
theorem ok_Rows (T : TX K mg) : C8.Mak P w K mg base 1 "Rows" (He.ga K "Rows") (fun vs H Q _ => ∃ (a dx : Addr) (p : Prog), vs = [.ref a, .str (textP p)] ∧ WfP p ∧ H a = some (.ins (He.ga K "Rows") dx []) ∧ ∀ H' pr, Fr [a] H H' → H pr = none → RWS K H' a pr [] (rowsP p) → Q .non H') [] := by
  refine mak_of T.f_Rows_init T.k_Rows T.g_Rows sc_Rows_init (fun _ _ _ _ _ _ us hl => match us, hl with | [_, _], _ => rfl) (fun vs H Q E h => ?_) (fun cdv A outer s H vs Q E hr h => ?_)
  · obtain ⟨a, dx, p, rfl, _⟩ := h
    rfl
  obtain ⟨a, dx, p, rfl, wp, ha, k⟩ := h
  refine ⟨_, (pss_cons (ps_fld (pv 0) (pe_split (pv 1) pe_str) rfl)
      (pss_one (ps_fld (pv 0) pe_int rfl))), ?_⟩
  have hl := rowsP_bound wp
  have ts := text_sum wp
  have tlen : (textP p).length ≤ 16000000 := Nat.le_trans (len_join _ _) ts
  have hne : rowsP p ≠ [] := by
    cases hp : p with
    | nil => exact absurd hp wp.2.2.2
    | cons f r => exact fun z => by cases z
  have es : Txt.split (textP p) "\n" = rowsP p := TL.split_join (y := "\n") (s := 10) (S := []) (by decide +kernel) (by decide +kernel) hne (fun r hr hc => by have := rowsP_noline wp r hr 10 hc; omega)
  refine ⟨_, rfl, ⟨_, rfl⟩, _, _, rfl, rfl, (by decide +kernel), Nat.le_trans (Nat.add_le_add_right tlen 2) (by decide), fun q hq => ?_⟩
  have hq1 : ∀ o, upd H q o a = some (.ins (He.ga K "Rows") dx []) := fun o => (Fr.new (S := []) hq).at ha
  have nqa : q ≠ a := fun z => by rw [z, ha] at hq; cases hq
  refine ⟨_, rfl, a, _, dx, _, rfl, hq1 _, T.l_Rows, T.n_Rows_rows, (by show 0 < 1000; decide), ?_⟩
  refine ⟨_, rfl, a, _, dx, _, rfl, upd_same, T.l_Rows, T.n_Rows_next_row, (by show 1 < 1000; decide), ?_⟩
  refine k _ q (((Fr.new hq).trans (Fr.put (by simp))).trans (Fr.put (by simp))) hq ⟨fun x hx => hl x hx, Nat.le_trans wp.2.2.1 (by decide), dx, ?_, ?_⟩
  · rw [upd_same]
    with_unfolding_all rfl
  · rw [upd_ne nqa, upd_ne nqa, upd_same, es]
    rfl
end
end FK
/-! FKX8 -/
set_option maxHeartbeats 400000
namespace FK
open PySem PySem.Spec PyProof.Rows L2
open TL (tl)
section
variable {P : Program} {w : World} {K : PySem.W.Frag} {mg : Str → Option Value} {base : Heap}
theorem sc_read : FnScope ["text", "rows", "program"] ["text"] (defScope s_read) := C8.fnScope_by (by decide +kernel)
theorem ok_read (T : TX K mg) : C8.Cal P w K mg base 156 "read" spRead [] := by
  have k_Rows := ok_Rows (P := P) (w := w) (base := base) T
  have m_done : C8.Met P w K mg base 1 (He.ga K "Rows") "done" (spDone K) [] := ok_done T
  have c_read_function : C8.Cal P w K mg base 155 "read_function" (spReadFn K) [] := ok_read_function T
  have c_check : C8.Cal P w K mg base 12 "check" spCheck [] := ok_check T
  refine cal_of T.f_read T.g_read sc_read (fun _ _ _ _ _ _ us hl => match us, hl with | [_], _ => rfl) (fun vs H Q E h => ?_) (fun cdv A outer s H vs Q E hr h => ?_)
  · obtain ⟨p, rfl, _⟩ := h
    rfl
  obtain ⟨p, rfl, wp, sp, so, k⟩ := h
  refine ⟨_, (pss_cons (ps_if (pt_not (pt_val (pe_callB L2.call_isi (by rfl) T.z_isinstance (by decide +kernel) (pa_cons (pv 0) (pa_cons (pe_bltn (v := .ty "str") (by rfl) T.z_str (by decide +kernel) rfl) pa_nil))))) (pss_one ps_never) pss_nil)
      (pss_cons (ps_set (i := 1) sc_read.nd rfl (by first | exact Or.inl rfl | exact Or.inr rfl) (C8.pe_mk k_Rows hr (by omega) (by rfl) (pa_cons (pv 0) pa_nil)))
      (pss_cons (ps_set (i := 2) sc_read.nd rfl (by first | exact Or.inl rfl | exact Or.inr rfl) (pe_lst pa_nil))
      (pss_cons (ps_while PassesOwn.never (pt_not (pt_val (C8.pe_mt0 m_done hr (by omega) (pv 1))))
        (pss_one (ps_expr (pe_bm PySem.F.plainAttrs_list PySem.F.slot_list_append PySem.F.type_list_append mt_append (pv 2) (pa_cons (C8.pe_c c_read_function hr (by omega) (by rfl) (pa_cons (pv 1) pa_nil)) pa_nil)))))
      (pss_cons (ps_if (pt_cmpR op_gt (pe_callB call_len_seq (by rfl) T.z_len (by decide +kernel) (pa_cons (pv 2) pa_nil)) (C8.pe_gc (by rfl) T.c_MOST_FUNCTIONS) (nomark _)) (pss_one ps_never) pss_nil)
      (pss_cons (ps_expr (C8.pe_c c_check hr (by omega) (by rfl) (pa_cons (pe_callTy call_tuple_of (by rfl) T.z_tuple (by decide +kernel) (pa_cons (pv 2) pa_nil)) pa_nil)))
      (pss_one (ps_ret (pe_callTy call_tuple_of (by rfl) T.z_tuple (by decide +kernel) (pa_cons (pv 2) pa_nil)))))))))), ?_⟩
  have p200 := wp.2.1
  refine ⟨_, rfl, _, _, _, _, _, rfl, .ty _, .base (.str _), kit_ty kitB_s.2.1, _, rfl, iteF ?_⟩
  refine ⟨_, rfl, fun a dx ha hdx nad => ⟨a, dx, p, rfl, wp, upd_same, fun H1 pr f1 hpr rw1 => ⟨rfl, ?_⟩⟩⟩
  have f01 : Fr [] H H1 := fun b o hb _ => f1 b o (by rw [upd_ne (ne_of_none hb ha), upd_ne (ne_of_none hb hdx)]; exact hb) (by simp; exact ne_of_none hb ha)
  refine ⟨sl0, fun r hr0 => ?_⟩
  have nra : a ≠ r := fun z => rw1.ne.1 (by rw [z]; exact hr0)
  have nrp : pr ≠ r := fun z => rw1.ne.2 (by rw [z]; exact hr0)
  have hr00 : H r = none := f01.le (fun b m => by cases m) r hr0
  refine ⟨fun m σ H2 => ∃ (dn rem : Prog) (pre' : List Str) (xs : List V), m = rem.length ∧ p = dn ++ rem ∧ σ = [some (.str (textP p)), some (.ref a), some (.ref r)] ∧ RWS K H2 a pr pre' (rowsP rem) ∧ H2 r = some (.lst xs) ∧ RepL H2 (dn.map Fn.d) xs ∧ Fr [] H H2,
    ⟨_, [], p, [], [], rfl, rfl, rfl, rw1.keep (S := []) (Fr.new hr0) (by simp) (by simp), upd_same, RepL.nil, f01.trans (Fr.new hr0)⟩, ?_⟩
  rintro m σ H2 ⟨dn, rem, pre2, xs, rfl, el, rfl, rw2, hr2, rx, f2⟩
  obtain ⟨h1, h0, dx2, h2, h3⟩ := id rw2
  have hdn : dn.length ≤ 200 := by
    have := congrArg List.length el
    rw [List.length_append] at this
    omega
  refine ⟨_, rfl, a, dx2, _, rfl, h2, (rw_meths _ _).1, a, pr, pre2, _, rfl, rw2, _, rfl, ?_⟩
  cases rem with
  | nil =>
    refine iteF ?_
    rw [List.append_nil] at el
    have xl : xs.length = dn.length := by rw [rx.length, List.length_map]
    refine ⟨_, rfl, r, _, rfl, .inl (SqL.of hr2), _, _, rfl, rfl, _, rfl, ifB (fun q => absurd q (by omega)) fun _ => ?_⟩
    refine ⟨_, rfl, r, _, rfl, .inl ⟨SqL.of hr2, fun t ht => ⟨.ref t, p, rfl, by rw [el]; exact rep_new ht rx, so, fun H5 f5 => ?_⟩⟩⟩
    have f25 : Fr [] H2 H5 := (Fr.new ht).trans f5
    exact ⟨_, rfl, r, _, rfl, .inl ⟨SqL.of (f25.at hr2), fun t' ht' => k _ _ (f2.trans (f25.trans (Fr.new ht'))) (by rw [el]; exact rep_new ht' (rx.mono f25.imm0))⟩⟩
  | cons f rr =>
    refine iteT ?_
    have hf : f ∈ p := by rw [el]; simp
    have hrows : rowsP (f :: rr) = rowsF f ++ rowsP rr := by rw [rowsP, rowsP, List.flatMap_cons]
    rw [hrows] at rw2
    refine ⟨fun σ' H' => ∃ (pre' : List Str) (xs' : List V), σ' = [some (.str (textP p)), some (.ref a), some (.ref r)] ∧ RWS K H' a pr pre' (rowsP rr) ∧ H' r = some (.lst xs') ∧ RepL H' ((dn ++ [f]).map Fn.d) xs' ∧ Fr [] H H', fun σ' H' ⟨pre', xs', e1, e2, e3, e4, e5⟩ => ⟨rr.length, by simp, dn ++ [f], rr, pre', xs', rfl, by rw [el]; simp, e1, e2, e3, e4, e5⟩, ?_⟩
    refine ⟨_, rfl, .inl ⟨rfl, _, SqL.of hr2⟩, _, rfl, a, pr, f, pre2, rowsP rr, rfl, rw2, wp.1 f hf, sp f hf, fun H3 v pre3 f3 rw3 rv => ?_⟩
    have hr3 := f3.at hr2 (by simp; exact nra.symm)
    refine ⟨r, _, _, rfl, rfl, hr3, sl_lt (by rw [rx.length, List.length_map]; omega), pre3, _, rfl, rw3.keep (S := [r]) (Fr.put (by simp)) (by simp; exact nra) (by simp; exact nrp), upd_same, ?_, ?_⟩
    · rw [List.map_append]
      exact ((rx.mono (rw2.imm f3)).snoc rv).mono (imm_upd (soft_lst hr3))
    · exact (Fr.forget f2 f3 fun b m => by rw [List.mem_singleton.mp m]; exact .inr ha).put_new hr00
end
end FK
/-! FKM1 -/
set_option maxHeartbeats 400000
namespace FK
open PySem PySem.Spec PyProof.Rows L2
open TL (tl)
/-! ### names differ -/
theorem letters_inj : ∀ i : Nat, i < 26 → ∀ j : Nat, j < 26 → letters.getD i 0 = letters.getD j 0 → i = j := by decide
theorem both_inj : ∀ i : Nat, i < 36 → ∀ j : Nat, j < 36 → both.getD i 0 = both.getD j 0 → i = j := by decide
theorem letterAt_eq {i j : Int} (h : letterAt i = letterAt j) : i % 26 = j % 26 := by
  have a := emod_lo i (show (0 : Int) < 26 by decide)
  have b := emod_hi i (show (0 : Int) < 26 by decide)
  have c := emod_lo j (show (0 : Int) < 26 by decide)
  have d := emod_hi j (show (0 : Int) < 26 by decide)
  have := letters_inj (i % 26).toNat (by omega) (j % 26).toNat (by omega) h
  omega
theorem bothAt_eq {i j : Int} (h : bothAt i = bothAt j) : i % 36 = j % 36 := by
  have a := emod_lo i (show (0 : Int) < 36 by decide)
  have b := emod_hi i (show (0 : Int) < 36 by decide)
  have c := emod_lo j (show (0 : Int) < 36 by decide)
  have d := emod_hi j (show (0 : Int) < 36 by decide)
  have := both_inj (i % 36).toNat (by omega) (j % 36).toNat (by omega) h
  omega
theorem nameAll_inj {c : Int} {k1 k2 : Nat} (h1 : k1 < 936) (h2 : k2 < 936) (h : nameAll c k1 = nameAll c k2) : k1 = k2 := by
  have s0 := nameSize_lo c
  have s1 := nameSize_hi c
  have r0 : (0 : Int) ≤ c / 16 % (nameSize c - 1) := emod_lo _ (by omega)
  have r1 : c / 16 % (nameSize c - 1) < nameSize c - 1 := emod_hi _ (by omega)
  have l1 := nameSigns_len c k1
  have l2 := nameSigns_len c k2
  have e0 := congrArg (fun l => l[0]?) h
  have e1 := congrArg (fun l => l[(1 + c / 16 % (nameSize c - 1)).toNat]?) h
  simp only [nameAll] at e0 e1
  have ne : (1 + c / 16 % (nameSize c - 1)).toNat ≠ 0 := by omega
  rw [List.getElem?_set_ne ne, List.getElem?_set_ne ne, List.getElem?_set_self (by omega), List.getElem?_set_self (by omega)] at e0
  rw [List.getElem?_set_self (by rw [List.length_set]; omega), List.getElem?_set_self (by rw [List.length_set]; omega)] at e1
  have a := letterAt_eq (Option.some.inj e0)
  have b := bothAt_eq (Option.some.inj e1)
  omega
theorem nameTab_inj : ∀ i : Nat, i < 14 → ∀ j : Nat, j < 14 → nameTab.getD i Str.empty = nameTab.getD j Str.empty → i = j := by decide +kernel
theorem nameTab_z : ∀ i : Nat, i < 14 → (tl (nameTab.getD i Str.empty)).head? ≠ some 122 := by decide +kernel
theorem tl_z : tl ("z" : Str) = [122] := by decide +kernel
theorem wordName_inj {c : Int} {k1 k2 : Nat} (h : gWordName c k1 = gWordName c k2) : k1 = k2 := by
  unfold gWordName at h
  have big : ∀ k : Nat, tl (("z" : Str) ++ Str.ofString (toString (k : Int))) = 122 :: TL.numL k := fun k => by
    rw [tl_app, tl_z, show tl (Str.ofString (toString (k : Int))) = TL.numL k from tl_nat k]
    rfl
  have idx : ∀ k : Nat, (((k : Int) + c / 5) % 14).toNat < 14 := fun k => by
    have := emod_lo ((k : Int) + c / 5) (show (0 : Int) < 14 by decide)
    have := emod_hi ((k : Int) + c / 5) (show (0 : Int) < 14 by decide)
    omega
  by_cases a : (k1 : Int) < 14
  · by_cases b : (k2 : Int) < 14
    · rw [if_pos a, if_pos b] at h
      have := nameTab_inj _ (idx k1) _ (idx k2) h
      have := emod_lo ((k1 : Int) + c / 5) (show (0 : Int) < 14 by decide)
      have := emod_lo ((k2 : Int) + c / 5) (show (0 : Int) < 14 by decide)
      omega
    · rw [if_pos a, if_neg b] at h
      have := congrArg (fun x => (tl x).head?) h
      simp only [big] at this
      exact absurd this (nameTab_z _ (idx k1))
  · by_cases b : (k2 : Int) < 14
    · rw [if_neg a, if_pos b] at h
      have := congrArg (fun x => (tl x).head?) h
      simp only [big] at this
      exact absurd this.symm (nameTab_z _ (idx k2))
    · rw [if_neg a, if_neg b] at h
      have := congrArg tl h
      rw [big, big] at this
      injection this with _ e
      exact TL.numL_inj e
theorem nameAll_len (c : Int) (k : Nat) : (nameAll c k).length = (nameSize c).toNat := by unfold nameAll; rw [List.length_set, List.length_set, nameSigns_len]
theorem gName_inj {c : Int} {k1 k2 : Nat} (h1 : k1 < 936) (h2 : k2 < 936) (h : gName c k1 = gName c k2) : k1 = k2 := by
  unfold gName at h
  have s0 := nameSize_lo c
  by_cases q : c % 5 = 3
  · rw [if_pos q, if_pos q] at h
    exact wordName_inj h
  rw [if_neg q, if_neg q] at h
  have tlA : ∀ k, tl (⟨(nameAll c k).toArray⟩ : Str) = nameAll c k := fun k => rfl
  have tlS : ∀ x : Nat, tl (sg x) = [x] := fun x => rfl
  by_cases a : 1 + c / 5 % 8 = 1 ∧ (k1 : Int) < 26
  · by_cases b : 1 + c / 5 % 8 = 1 ∧ (k2 : Int) < 26
    · rw [if_pos a, if_pos b] at h
      have := congrArg tl h
      rw [tlS, tlS] at this
      injection this with e
      have := letterAt_eq e
      omega
    · rw [if_pos a, if_neg b] at h
      have := congrArg (fun x => (tl x).length) h
      simp only [tlS, tlA, nameAll_len] at this
      simp at this
      omega
  · by_cases b : 1 + c / 5 % 8 = 1 ∧ (k2 : Int) < 26
    · rw [if_neg a, if_pos b] at h
      have := congrArg (fun x => (tl x).length) h
      simp only [tlS, tlA, nameAll_len] at this
      simp at this
      omega
    · rw [if_neg a, if_neg b] at h
      have := congrArg tl h
      rw [tlA, tlA] at this
      exact nameAll_inj h1 h2 this
end FK
/-! FKM2 -/
set_option maxHeartbeats 400000
namespace FK
open PySem PySem.Spec PyProof.Rows L2
open TL (tl)
theorem letters_at : ∀ i : Nat, i < 26 → letters.getD i 0 ∈ letters := by decide
theorem both_at : ∀ i : Nat, i < 36 → both.getD i 0 ∈ letters ++ figures := by decide
theorem letterAt_in (i : Int) : letterAt i ∈ letters := by
  have a := emod_lo i (show (0 : Int) < 26 by decide)
  have b := emod_hi i (show (0 : Int) < 26 by decide)
  exact letters_at _ (by omega)
theorem bothAt_in (i : Int) : bothAt i ∈ letters ++ figures := by
  have a := emod_lo i (show (0 : Int) < 36 by decide)
  have b := emod_hi i (show (0 : Int) < 36 by decide)
  exact both_at _ (by omega)
theorem let_in {c : Nat} (h : c ∈ letters) : c ∈ letters ++ figures := List.mem_append_left _ h
def isNameB (x : Str) : Bool := decide (1 ≤ x.length) && decide (x.length ≤ 8) && (match tl x with | [] => false | c :: _ => decide (c ∈ letters)) && (tl x).all fun c => decide (c ∈ letters ++ figures)
theorem isName_of {x : Str} (h : isNameB x = true) : IsName x := by
  unfold isNameB at h
  rw [Bool.and_eq_true, Bool.and_eq_true, Bool.and_eq_true] at h
  obtain ⟨⟨⟨h1, h2⟩, h3⟩, h4⟩ := h
  refine ⟨of_decide_eq_true h1, of_decide_eq_true h2, ?_, fun c hc => of_decide_eq_true (List.all_eq_true.mp h4 c hc)⟩
  cases z : tl x with
  | nil => rw [z] at h3; cases h3
  | cons c r => rw [z] at h3; exact ⟨c, r, rfl, of_decide_eq_true h3⟩
theorem nameTab_ok : ∀ i : Nat, i < 14 → isNameB (nameTab.getD i Str.empty) = true := by decide +kernel
theorem wordName_name (c : Int) {k : Nat} (hk : k < 1000) : IsName (gWordName c k) := by
  unfold gWordName
  split
  · have := emod_lo ((k : Int) + c / 5) (show (0 : Int) < 14 by decide)
    have := emod_hi ((k : Int) + c / 5) (show (0 : Int) < 14 by decide)
    exact isName_of (nameTab_ok _ (by omega))
  · have e : tl (("z" : Str) ++ Str.ofString (toString (k : Int))) = 122 :: TL.numL k := by
      rw [tl_app, tl_z, show tl (Str.ofString (toString (k : Int))) = TL.numL k from tl_nat k]
      rfl
    have l := TL.numL_len (k := 3) (by decide) (show k < 10 ^ 3 by omega)
    refine ⟨?_, ?_, ⟨122, _, e, by decide⟩, fun c hc => ?_⟩
    · rw [len_tl, e, List.length_cons]; omega
    · rw [len_tl, e, List.length_cons]; omega
    · rw [e] at hc
      rcases List.mem_cons.mp hc with z | hc
      · rw [z]; decide
      · exact List.mem_append_right _ (figs c hc)
theorem nameSigns_in (c : Int) (k : Nat) : ∀ x ∈ nameSigns c k, x ∈ letters ++ figures := fun x hx => by
  unfold nameSigns at hx
  split at hx
  · obtain ⟨j, _, rfl⟩ := List.mem_map.mp hx
    exact bothAt_in _
  · obtain ⟨j, _, rfl⟩ := List.mem_map.mp hx
    exact bothAt_in _
theorem nameAll_name (c : Int) (k : Nat) : IsName (⟨(nameAll c k).toArray⟩ : Str) := by
  have s0 := nameSize_lo c
  have s1 := nameSize_hi c
  have r0 : (0 : Int) ≤ c / 16 % (nameSize c - 1) := emod_lo _ (by omega)
  have l := nameAll_len c k
  have e : tl (⟨(nameAll c k).toArray⟩ : Str) = nameAll c k := rfl
  have ne : (1 + c / 16 % (nameSize c - 1)).toNat ≠ 0 := by omega
  have h0 : (nameAll c k)[0]? = some (letterAt (c / 64 + (k : Int) / 36)) := by
    unfold nameAll
    rw [List.getElem?_set_ne ne, List.getElem?_set_self (by rw [nameSigns_len]; omega)]
  refine ⟨by rw [len_tl, e, l]; omega, by rw [len_tl, e, l]; omega, ?_, fun x hx => ?_⟩
  · rw [e]
    cases z : nameAll c k with
    | nil => rw [z] at h0; cases h0
    | cons x r =>
      rw [z] at h0
      have : x = letterAt (c / 64 + (k : Int) / 36) := by simpa using h0
      exact ⟨x, r, rfl, by rw [this]; exact letterAt_in _⟩
  · rw [e] at hx
    unfold nameAll at hx
    rcases List.mem_or_eq_of_mem_set hx with hx | hx
    · rcases List.mem_or_eq_of_mem_set hx with hx | hx
      · exact nameSigns_in c k x hx
      · rw [hx]; exact let_in (letterAt_in _)
    · rw [hx]; exact bothAt_in _
theorem gName_name (c : Int) {k : Nat} (hk : k < 1000) : IsName (gName c k) := by
  unfold gName
  split
  · exact wordName_name c hk
  · split
    · refine ⟨Nat.le_refl _, (by show 1 ≤ 8; decide), ⟨_, [], rfl, letterAt_in _⟩, fun x hx => ?_⟩
      have : x = letterAt (c / 8 + (k : Int)) := List.mem_singleton.mp hx
      rw [this]
      exact let_in (letterAt_in _)
    · exact nameAll_name c k
theorem word_ok (l : List Int) : IsWord (gWord l).1 := by
  have a := gNext_lo l (show (0 : Int) < 8 by decide)
  have b := gNext_hi l (show (0 : Int) < 8 by decide)
  have e : tl (gWord l).1 = (List.range (1 + (gNext l 8).1).toNat).map (wordSign (gNext (gNext l 8).2 1000000007).1 (1 + (gNext l 8).1)) := rfl
  refine ⟨?_, ?_, fun c hc => ?_⟩
  · rw [len_tl, e, List.length_map, List.length_range]; omega
  · rw [len_tl, e, List.length_map, List.length_range]; omega
  · rw [e] at hc
    obtain ⟨k, _, rfl⟩ := List.mem_map.mp hc
    exact letterAt_in _
end FK
/-! FKM3 -/
set_option maxHeartbeats 400000
namespace FK
open PySem PySem.Spec PyProof.Rows L2
open TL (tl)
theorem numTab_ok : ∀ i : Nat, i < 6 → -(10 ^ 18) < numTab.getD i 0 ∧ numTab.getD i 0 < 10 ^ 18 := by decide
theorem number_ok (l : List Int) : -(10 ^ 18) < (gNumber l).1 ∧ (gNumber l).1 < 10 ^ 18 := by
  have a := gNext_lo l (show (0 : Int) < 6 by decide)
  unfold gNumber
  split
  · have := gNext_lo (gNext l 6).2 (show (0 : Int) < 10 by decide)
    have := gNext_hi (gNext l 6).2 (show (0 : Int) < 10 by decide)
    omega
  split
  · have := gNext_lo (gNext l 6).2 (show (0 : Int) < 1000 by decide)
    have := gNext_hi (gNext l 6).2 (show (0 : Int) < 1000 by decide)
    show -(10 ^ 18) < 0 - (gNext (gNext l 6).2 1000).1 ∧ 0 - (gNext (gNext l 6).2 1000).1 < 10 ^ 18
    omega
  split
  · have := gNext_lo (gNext l 6).2 (show (0 : Int) < 6 by decide)
    have := gNext_hi (gNext l 6).2 (show (0 : Int) < 6 by decide)
    exact numTab_ok _ (by omega)
  · have b0 := gNext_lo (gNext l 6).2 (show (0 : Int) < 10 ^ 9 by decide)
    have b1 := gNext_hi (gNext l 6).2 (show (0 : Int) < 10 ^ 9 by decide)
    have c0 := gNext_lo (gNext (gNext l 6).2 (10 ^ 9)).2 (show (0 : Int) < 10 ^ 9 by decide)
    have c1 := gNext_hi (gNext (gNext l 6).2 (10 ^ 9)).2 (show (0 : Int) < 10 ^ 9 by decide)
    have d0 := emod_lo (gNext l 6).1 (show (0 : Int) < 2 by decide)
    have d1 := emod_hi (gNext l 6).1 (show (0 : Int) < 2 by decide)
    generalize (gNext (gNext l 6).2 (10 ^ 9)).1 = x at *
    generalize (gNext (gNext (gNext l 6).2 (10 ^ 9)).2 (10 ^ 9)).1 = y at *
    have e : ((gNext l 6).1 % 2).toNat = 0 ∨ ((gNext l 6).1 % 2).toNat = 1 := by omega
    rcases e with e | e
    · rw [e]
      show -(10 ^ 18) < x * 10 ^ 9 + y ∧ x * 10 ^ 9 + y < 10 ^ 18
      omega
    · rw [e]
      show -(10 ^ 18) < 0 - (x * 10 ^ 9 + y) ∧ 0 - (x * 10 ^ 9 + y) < 10 ^ 18
      omega
theorem gList_all {α : Type} {f : List Int → α × List Int} {Pr : α → Prop} (h : ∀ l, Pr (f l).1) : ∀ (n : Nat) (l : List Int), ∀ x ∈ (gList f n l).1, Pr x
  | 0, l, x, hx => by cases hx
  | n + 1, l, x, hx => by
    rw [gList] at hx
    rcases List.mem_append.mp hx with hx | hx
    · exact gList_all h n l x hx
    · rw [List.mem_singleton.mp hx]; exact h _
/-- a record whose keys differ, words all, parts that keep Pr -/
def RecOk (Pr : D → Prop) (l : List (Str × D)) : Prop := (l.map (·.1)).Nodup ∧ ∀ p ∈ l, IsWord p.1 ∧ Pr p.2
theorem putD_ok {Pr : D → Prop} {l : List (Str × D)} {x : Str} {d : D} (h : RecOk Pr l) (hx : IsWord x) (hd : Pr d) : RecOk Pr (putD l x d) := by
  unfold putD
  split
  · refine ⟨?_, fun p hp => ?_⟩
    · have e : (l.map fun p => if p.1 = x then (p.1, d) else p).map (·.1) = l.map (·.1) := by
        rw [List.map_map]
        refine List.map_congr_left fun p _ => ?_
        show (if p.1 = x then (p.1, d) else p).1 = p.1
        split <;> rfl
      rw [e]
      exact h.1
    · obtain ⟨q, hq, rfl⟩ := List.mem_map.mp hp
      have := h.2 q hq
      split
      · exact ⟨this.1, hd⟩
      · exact this
  · rename_i c
    refine ⟨?_, fun p hp => ?_⟩
    · rw [List.map_append]
      refine List.nodup_append.mpr ⟨h.1, by simp, fun a ha b hb z => ?_⟩
      have eb : b = x := List.mem_singleton.mp hb
      obtain ⟨q, hq, e⟩ := List.mem_map.mp ha
      exact c (List.any_eq_true.mpr ⟨q, hq, decide_eq_true (by rw [e, z, eb])⟩)
    · rcases List.mem_append.mp hp with hp | hp
      · exact h.2 p hp
      · rw [List.mem_singleton.mp hp]; exact ⟨hx, hd⟩
theorem gRec_ok {f : List Int → D × List Int} {Pr : D → Prop} (h : ∀ l, Pr (f l).1) : ∀ (n : Nat) (l : List Int), RecOk Pr (gRec f n l).1
  | 0, l => ⟨List.nodup_nil, fun p hp => by cases hp⟩
  | n + 1, l => by
    rw [gRec]
    exact putD_ok (gRec_ok h n l) (word_ok _) (h _)
theorem RecOk.wf {l : List (Str × D)} (h : RecOk WfD l) : WfD (.dct l) := .dct h.1 (fun p hp => (h.2 p hp).1) fun p hp => (h.2 p hp).2
theorem value_wf : ∀ (n : Nat) (l : List Int), WfD (gValue n l).1
  | 0, l => by
    rw [gValue]
    split
    · exact .str (word_ok _)
    · exact .int (number_ok _)
  | n + 1, l => by
    rw [gValue]
    split
    · exact .str (word_ok _)
    split
    · exact .tup fun d hd => gList_all (value_wf n) _ _ d hd
    split
    · exact (gRec_ok (value_wf n) _ _).wf
    · exact .int (number_ok _)
end FK
/-! FKM4 -/
set_option maxHeartbeats 400000
namespace FK
open PySem PySem.Spec PyProof.Rows L2
open TL (tl)
theorem partsL_const {k : Nat} : ∀ {l : List D}, (∀ d ∈ l, partsD d ≤ k) → partsL l ≤ l.length * k
  | [], _ => by rw [partsL]; exact Nat.zero_le _
  | d :: r, h => by
    have := partsL_const fun c hc => h c (List.mem_cons_of_mem d hc)
    have := h d List.mem_cons_self
    rw [partsL, List.length_cons, Nat.succ_mul]
    omega
theorem partsK_const {k : Nat} : ∀ {l : List (Str × D)}, (∀ p ∈ l, partsD p.2 ≤ k) → partsK l ≤ l.length * k
  | [], _ => by rw [partsK]; exact Nat.zero_le _
  | d :: r, h => by
    have := partsK_const fun c hc => h c (List.mem_cons_of_mem d hc)
    have := h d List.mem_cons_self
    rw [partsK, List.length_cons, Nat.succ_mul]
    omega
theorem gRec_all {f : List Int → D × List Int} {Pr : D → Prop} (h : ∀ l, Pr (f l).1) (n : Nat) (l : List Int) : ∀ p ∈ (gRec f n l).1, Pr p.2 := fun p hp => ((gRec_ok h n l).2 p hp).2
theorem value0_parts (l : List Int) : partsD (gValue 0 l).1 ≤ 1 := by
  rw [gValue]
  split
  · rw [partsD]; exact Nat.le_refl _
  · rw [partsD]; exact Nat.le_refl _
theorem value1_parts (l : List Int) : partsD (gValue 1 l).1 ≤ 60 := by
  have b := gNext_hi (gNext l 8).2 (show (0 : Int) < 4 by decide)
  have a := gNext_lo (gNext l 8).2 (show (0 : Int) < 4 by decide)
  rw [gValue]
  split
  · rw [partsD]; omega
  split
  · rw [partsD]
    have := partsL_const (k := 1) (gList_all (Pr := fun d => partsD d ≤ 1) value0_parts (gNext (gNext l 8).2 4).1.toNat (gNext (gNext l 8).2 4).2)
    rw [gList_len] at this
    omega
  split
  · rw [partsD]
    have := partsK_const (k := 1) (gRec_all (Pr := fun d => partsD d ≤ 1) value0_parts (gNext (gNext l 8).2 4).1.toNat (gNext (gNext l 8).2 4).2)
    have := gRec_len (gValue 0) (gNext (gNext l 8).2 4).1.toNat (gNext (gNext l 8).2 4).2
    omega
  · rw [partsD]; omega
end FK
/-! FKM5 -/
set_option maxHeartbeats 400000
namespace FK
open PySem PySem.Spec PyProof.Rows L2
open TL (tl)
theorem nestT_ok {d : D} (h : WfD d) (hp : partsD d ≤ 1) : ∀ n, WfD (nestT d n) ∧ partsD (nestT d n) ≤ n + 1
  | 0 => ⟨h, hp⟩
  | n + 1 => by
    obtain ⟨a, b⟩ := nestT_ok h hp n
    refine ⟨.tup fun x hx => by rw [List.mem_singleton.mp hx]; exact a, ?_⟩
    rw [nestT, partsD, partsL, partsL]
    omega
theorem nestK_ok {x : Str} {d : D} (hx : IsWord x) (h : WfD d) (hp : partsD d ≤ 1) : ∀ n, WfD (nestK x d n) ∧ partsD (nestK x d n) ≤ n + 1
  | 0 => ⟨h, hp⟩
  | n + 1 => by
    obtain ⟨a, b⟩ := nestK_ok hx h hp n
    refine ⟨.dct (by simp) (fun p hp => by rw [List.mem_singleton.mp hp]; exact hx) (fun p hp => by rw [List.mem_singleton.mp hp]; exact a), ?_⟩
    rw [nestK, partsD, partsK, partsK]
    show 1 + (partsD (nestK x d n) + 0) ≤ n + 1 + 1
    omega
theorem bigRow_ok (c : Int) (n : Nat) : ∀ d ∈ bigRow c n, WfD d ∧ partsD d ≤ 1 := fun d hd => by
  obtain ⟨k, _, rfl⟩ := List.mem_map.mp hd
  have := emod_lo (c * ((k : Int) + 1)) (show (0 : Int) < 1999 by decide)
  have := emod_hi (c * ((k : Int) + 1)) (show (0 : Int) < 1999 by decide)
  exact ⟨.int ⟨by omega, by omega⟩, by rw [partsD]; exact Nat.le_refl _⟩
theorem bigKey_word (c : Int) {k : Nat} (hk : k < 600) : IsWord (bigKey c k) := by
  have e : tl (bigKey c k) = [letterAt (c + 7 * (k : Int)), letters.getD ((k : Int) / 26).toNat 0] := by
    unfold bigKey
    rw [tl_app]
    rfl
  have g := letters_at ((k : Int) / 26).toNat (by omega)
  refine ⟨(by rw [len_tl, e]; show 1 ≤ 2; decide), (by rw [len_tl, e]; show 2 ≤ 8; decide), fun x hx => ?_⟩
  rw [e] at hx
  rcases List.mem_cons.mp hx with z | hx
  · rw [z]; exact letterAt_in _
  · rw [List.mem_singleton.mp hx]; exact g
theorem bigRec_ok (c : Int) : ∀ n, n ≤ 600 → RecOk (fun d => WfD d ∧ partsD d ≤ 1) (bigRec c n)
  | 0, _ => ⟨List.nodup_nil, fun p hp => by cases hp⟩
  | n + 1, h => by
    have := emod_lo (c * (n : Int)) (show (0 : Int) < 1999 by decide)
    have := emod_hi (c * (n : Int)) (show (0 : Int) < 1999 by decide)
    exact putD_ok (bigRec_ok c n (by omega)) (bigKey_word c (by omega)) ⟨.int ⟨by omega, by omega⟩, by rw [partsD]; exact Nat.le_refl _⟩
theorem large_ok (l : List Int) : WfD (gLarge l).1 ∧ partsD (gLarge l).1 ≤ 60 := by
  unfold gLarge
  have one : ∀ l, partsD (.int (gNumber l).1) ≤ 1 := fun l => by rw [partsD]; exact Nat.le_refl _
  split
  · refine ⟨.tup fun d hd => (bigRow_ok _ _ d hd).1, ?_⟩
    rw [partsD]
    have := partsL_const fun d hd => (bigRow_ok (gNext (gNext l 5).2 1000003).1 59 d hd).2
    have e : (bigRow (gNext (gNext l 5).2 1000003).1 59).length = 59 := by rw [bigRow, List.length_map, List.length_range]
    omega
  split
  · refine ⟨.tup fun d hd => by rw [(List.mem_replicate.mp hd).2]; exact .tup (fun x hx => by cases hx), ?_⟩
    rw [partsD]
    have := partsL_const (k := 1) (l := List.replicate ((gNext (gNext l 5).2 1000003).1 % 60).toNat (.tup [])) fun d hd => by rw [(List.mem_replicate.mp hd).2, partsD, partsL]; exact Nat.le_refl _
    have b := emod_hi (gNext (gNext l 5).2 1000003).1 (show (0 : Int) < 60 by decide)
    have a := emod_lo (gNext (gNext l 5).2 1000003).1 (show (0 : Int) < 60 by decide)
    rw [List.length_replicate] at this
    omega
  split
  · exact nestT_ok (.int (number_ok _)) (one _) 59
  split
  · exact nestK_ok (word_ok _) (.int (number_ok _)) (one _) 59
  · have h := bigRec_ok (gNext (gNext l 5).2 1000003).1 59 (by decide)
    rw [← bigAll_eq] at h
    refine ⟨.dct h.1 (fun p hp => (h.2 p hp).1) (fun p hp => (h.2 p hp).2.1), ?_⟩
    rw [partsD]
    have a := partsK_const fun p hp => (h.2 p hp).2.2
    have b := bigRec_len (gNext (gNext l 5).2 1000003).1 59
    rw [← bigAll_eq] at b
    omega
end FK
/-! FKM6 -/
set_option maxHeartbeats 400000
namespace FK
open PySem PySem.Spec PyProof.Rows L2
open TL (tl)
/-- an atom that may stand where S is in scope -/
def AtomOk (S : List Str) : Atom → Prop
  | .is d => WfD d ∧ partsD d ≤ 60
  | .of x => x ∈ S
theorem getD_mem {S : List Str} {i : Nat} (h : i < S.length) : S.getD i Str.empty ∈ S := by
  rw [List.getD_eq_getElem?_getD, List.getElem?_eq_getElem h]
  exact List.getElem_mem _
theorem gAtom_ok (S : List Str) (l : List Int) : AtomOk S (gAtom S l).1 := by
  unfold gAtom
  split
  · rename_i h
    have a := gNext_lo (gNext l 3).2 h.2
    have b := gNext_hi (gNext l 3).2 h.2
    exact getD_mem (by omega)
  · exact ⟨value_wf 1 _, value1_parts _⟩
theorem AtomOk.wf {S : List Str} (hS : ∀ x ∈ S, IsName x) {a : Atom} (h : AtomOk S a) : WfAtom a := by
  cases a with
  | is d => exact h
  | of x => exact hS x h
theorem AtomOk.in {S : List Str} {as : List Atom} (h : ∀ a ∈ as, AtomOk S a) : ∀ x, Atom.of x ∈ as → x ∈ S := fun x hx => h _ hx
theorem opAt_in {k : Int} (h0 : 0 ≤ k) (h1 : k < 17) : opAt k ∈ opTab := by
  unfold opAt
  rw [List.getD_eq_getElem?_getD, List.getElem?_eq_getElem (show k.toNat < opTab.length by show _ < 17; omega)]
  exact List.getElem_mem _
theorem headAt_in {heads : List (Str × Nat)} {i : Int} (h0 : 0 ≤ i) (h1 : i < heads.length) : headAt heads i ∈ heads := by
  unfold headAt
  rw [List.getD_eq_getElem?_getD, List.getElem?_eq_getElem (show i.toNat < heads.length by omega)]
  exact List.getElem_mem _
/-- a step that may stand there -/
theorem gStep_ok {heads : List (Str × Nat)} {S : List Str} {nm : Str} (hh : heads ≠ []) (hn : ∀ p ∈ heads, IsName p.1 ∧ p.2 ≤ 6) (hS : ∀ x ∈ S, IsName x) (hnm : IsName nm) (l : List Int) :
    WfStep (gStep heads S nm l).1 ∧ LineOk heads S (.st (gStep heads S nm l).1) ∧ (gStep heads S nm l).1.nm = nm := by
  have lo := gNext_lo l (show (0 : Int) < 22 by decide)
  have atoms : ∀ n l, ∀ a ∈ (gList (gAtom S) n l).1, AtomOk S a := fun n l => gList_all (gAtom_ok S) n l
  unfold gStep
  split
  · rename_i h
    refine ⟨⟨hnm, ?_, fun a ha => (atoms _ _ a ha).wf hS⟩, ⟨fun f e => (by cases e), AtomOk.in (atoms _ _)⟩, rfl⟩
    rw [gList_len]
    exact opAt_in lo h
  · have hpos : (0 : Int) < (heads.length : Int) := by have := List.length_pos_iff.mpr hh; omega
    have hm := headAt_in (gNext_lo (gNext l 22).2 hpos) (gNext_hi (gNext l 22).2 hpos)
    have := hn _ hm
    refine ⟨⟨hnm, this.1, ?_, fun a ha => (atoms _ _ a ha).wf hS⟩, ⟨fun f e => ?_, AtomOk.in (atoms _ _)⟩, rfl⟩
    · rw [gList_len]; exact this.2
    · have e2 : (headAt heads (gNext (gNext l 22).2 (heads.length : Int)).1).1 = f := Option.some.inj e
      show (f, (gList (gAtom S) _ _).1.length) ∈ heads
      rw [gList_len, ← e2]
      exact hm
end FK
/-! FKM7 -/
set_option maxHeartbeats 400000
namespace FK
open PySem PySem.Spec PyProof.Rows L2
open TL (tl)
theorem StepsOk.snoc {cts : List (Str × Nat)} {s : Step} : ∀ {ss : List Step} {S Tk : List Str}, StepsOk cts ss S Tk → LineOk cts (S ++ ss.map Step.nm) (.st s) → s.nm ∉ Tk ++ ss.map Step.nm → StepsOk cts (ss ++ [s]) S Tk
  | [], S, Tk, _, h, g => by
    rw [List.map_nil, List.append_nil] at h g
    exact ⟨h, g, trivial⟩
  | x :: r, S, Tk, h, h2, g => by
    refine ⟨h.1, h.2.1, StepsOk.snoc h.2.2 ?_ ?_⟩
    · rw [List.map_cons, List.append_cons] at h2
      exact h2
    · rw [List.map_cons, List.append_cons] at g
      exact g
theorem namesOf_succ (c : Int) (m : Nat) : namesOf c (m + 1) = namesOf c m ++ [gName c m] := by
  rw [namesOf, namesOf, List.range_succ, List.map_append]
  rfl
theorem namesOf_len (c : Int) (m : Nat) : (namesOf c m).length = m := by rw [namesOf, List.length_map, List.length_range]
theorem namesOf_new {c : Int} {m : Nat} (h : m < 936) : gName c m ∉ namesOf c m := fun z => by
  obtain ⟨k, hk, e⟩ := List.mem_map.mp z
  have hk' := List.mem_range.mp hk
  have := gName_inj (by omega) h e
  omega
theorem namesOf_name {c : Int} {m : Nat} (h : m < 1000) : ∀ x ∈ namesOf c m, IsName x := fun x hx => by
  obtain ⟨k, hk, rfl⟩ := List.mem_map.mp hx
  have := List.mem_range.mp hk
  exact gName_name c (by omega)
theorem gSteps_ok {heads : List (Str × Nat)} {c : Int} {S : List Str} {m : Nat} (hh : heads ≠ []) (hn : ∀ p ∈ heads, IsName p.1 ∧ p.2 ≤ 6) (hS : ∀ x ∈ S, IsName x) (l : List Int) : ∀ n, m + n < 936 →
    (∀ s ∈ (gSteps heads c n ⟨[], S, namesOf c m, l⟩).ss, WfStep s) ∧ StepsOk heads (gSteps heads c n ⟨[], S, namesOf c m, l⟩).ss S (namesOf c m) ∧
    (gSteps heads c n ⟨[], S, namesOf c m, l⟩).sc = S ++ (gSteps heads c n ⟨[], S, namesOf c m, l⟩).ss.map Step.nm ∧
    (gSteps heads c n ⟨[], S, namesOf c m, l⟩).us = namesOf c (m + n) ∧ namesOf c (m + n) = namesOf c m ++ (gSteps heads c n ⟨[], S, namesOf c m, l⟩).ss.map Step.nm ∧
    (∀ x ∈ (gSteps heads c n ⟨[], S, namesOf c m, l⟩).sc, IsName x)
  | 0, _ => ⟨fun s hs => (by cases hs), trivial, (List.append_nil S).symm, rfl, (List.append_nil _).symm, hS⟩
  | n + 1, h => by
    obtain ⟨h1, h2, h3, h4, h5, h6⟩ := gSteps_ok (m := m) hh hn hS l n (by omega)
    rw [gSteps]
    generalize gSteps heads c n ⟨[], S, namesOf c m, l⟩ = t at *
    have el : t.us.length = m + n := by rw [h4, namesOf_len]
    rw [el]
    obtain ⟨a1, a2, a3⟩ := gStep_ok hh hn h6 (gName_name c (k := m + n) (by omega)) t.l
    refine ⟨fun s hs => ?_, h2.snoc ?_ ?_, ?_, ?_, ?_, fun x hx => ?_⟩
    · rcases List.mem_append.mp hs with hs | hs
      · exact h1 s hs
      · rw [List.mem_singleton.mp hs]; exact a1
    · rw [← h3]; exact a2
    · rw [a3, ← h5]; exact namesOf_new (by omega)
    · show t.sc ++ [gName c (m + n)] = _
      rw [List.map_append, List.map_cons, List.map_nil, a3, h3, List.append_assoc]
    · show t.us ++ [gName c (m + n)] = namesOf c (m + n + 1)
      rw [namesOf_succ, h4]
    · show namesOf c (m + n + 1) = _
      rw [namesOf_succ, h5, List.map_append, List.map_cons, List.map_nil, a3, List.append_assoc]
    · rcases List.mem_append.mp hx with hx | hx
      · exact h6 x hx
      · rw [List.mem_singleton.mp hx]; exact gName_name c (by omega)
end FK
/-! FKM8 -/
set_option maxHeartbeats 400000
namespace FK
open PySem PySem.Spec PyProof.Rows L2
open TL (tl)
theorem gLeaf_ok {heads : List (Str × Nat)} {S : List Str} (hh : heads ≠ []) (hn : ∀ p ∈ heads, IsName p.1 ∧ p.2 ≤ 6) (hS : ∀ x ∈ S, IsName x) (ss : List Step) (way : Int) (l : List Int) :
    WfLeaf (gLeaf heads S way l).1 ∧ LineOk heads S (.en (.leaf ss (gLeaf heads S way l).1)) := by
  have atoms : ∀ n l, ∀ a ∈ (gList (gAtom S) n l).1, AtomOk S a := fun n l => gList_all (gAtom_ok S) n l
  unfold gLeaf
  split
  · exact ⟨word_ok l, fun f e => (by cases e), fun x hx => (by cases hx)⟩
  split
  · have hpos : (0 : Int) < (heads.length : Int) := by have := List.length_pos_iff.mpr hh; omega
    have hm := headAt_in (gNext_lo l hpos) (gNext_hi l hpos)
    have := hn _ hm
    refine ⟨⟨this.1, ?_, fun a ha => (atoms _ _ a ha).wf hS⟩, ⟨fun f e => ?_, AtomOk.in (atoms _ _)⟩⟩
    · rw [gList_len]; exact this.2
    · have e2 : (headAt heads (gNext l (heads.length : Int)).1).1 = f := Option.some.inj e
      show (f, (gList (gAtom S) _ _).1.length) ∈ heads
      rw [gList_len, ← e2]
      exact hm
  · refine ⟨(gAtom_ok S l).wf hS, ⟨fun f e => (by cases e), fun x hx => ?_⟩⟩
    have hx' : Atom.of x ∈ [(gAtom S l).1] := hx
    have := gAtom_ok S l
    rw [← List.mem_singleton.mp hx'] at this
    exact this
end FK
/-! FKM9 -/
set_option maxHeartbeats 400000
namespace FK
open PySem PySem.Spec PyProof.Rows L2
open TL (tl)
theorem gBlock_ok {heads : List (Str × Nat)} {c : Int} (hh : heads ≠ []) (hn : ∀ p ∈ heads, IsName p.1 ∧ p.2 ≤ 6) : ∀ (n : Nat) (S : List Str) (m : Nat) (l : List Int), (∀ x ∈ S, IsName x) → m + 3 * nB n < 936 →
    WfB (gBlock heads c n S (namesOf c m) l).1 ∧ BlockOk heads (gBlock heads c n S (namesOf c m) l).1 S (namesOf c m) ∧ ifsB (gBlock heads c n S (namesOf c m) l).1 ≤ n ∧ linesB (gBlock heads c n S (namesOf c m) l).1 ≤ 4 * nB n ∧
    ∃ m', (gBlock heads c n S (namesOf c m) l).2.1 = namesOf c m' ∧ m' ≤ m + 3 * nB n ∧ namesOf c m' = namesOf c m ++ namesB (gBlock heads c n S (namesOf c m) l).1 := by
  intro n
  have top : ∀ (S : List Str) (m : Nat) (l : List Int), (∀ x ∈ S, IsName x) → m + 3 < 936 → ∃ k, k ≤ 3 ∧ (gTop heads c S (namesOf c m) l).ss.length = k ∧
      (∀ s ∈ (gTop heads c S (namesOf c m) l).ss, WfStep s) ∧ StepsOk heads (gTop heads c S (namesOf c m) l).ss S (namesOf c m) ∧
      (gTop heads c S (namesOf c m) l).sc = S ++ (gTop heads c S (namesOf c m) l).ss.map Step.nm ∧ (gTop heads c S (namesOf c m) l).us = namesOf c (m + k) ∧
      namesOf c (m + k) = namesOf c m ++ (gTop heads c S (namesOf c m) l).ss.map Step.nm ∧ (∀ x ∈ (gTop heads c S (namesOf c m) l).sc, IsName x) := fun S m l hS hm => by
    have a := gNext_lo l (show (0 : Int) < 4 by decide)
    have b := gNext_hi l (show (0 : Int) < 4 by decide)
    obtain ⟨h1, h2, h3, h4, h5, h6⟩ := gSteps_ok (c := c) (m := m) hh hn hS (gNext l 4).2 (gNext l 4).1.toNat (by omega)
    obtain ⟨b1, _, _⟩ := gSteps_len (heads := heads) (cell := c) (t := ⟨[], S, namesOf c m, (gNext l 4).2⟩) (gNext l 4).1.toNat
    exact ⟨(gNext l 4).1.toNat, by omega, by rw [show gTop heads c S (namesOf c m) l = _ from rfl, gTop, b1]; exact Nat.zero_add _, h1, h2, h3, h4, h5, h6⟩
  have leafC : ∀ (n : Nat) (S : List Str) (m : Nat) (l : List Int), (∀ x ∈ S, IsName x) → m + 3 < 936 → ∀ e, WfLeaf e ∧ (∀ ss, LineOk heads (gTop heads c S (namesOf c m) l).sc (.en (.leaf ss e))) →
      WfB (.leaf (gTop heads c S (namesOf c m) l).ss e) ∧ BlockOk heads (.leaf (gTop heads c S (namesOf c m) l).ss e) S (namesOf c m) ∧ ifsB (.leaf (gTop heads c S (namesOf c m) l).ss e) ≤ n ∧ linesB (.leaf (gTop heads c S (namesOf c m) l).ss e) ≤ 4 ∧
      ∃ m', (gTop heads c S (namesOf c m) l).us = namesOf c m' ∧ m' ≤ m + 3 ∧ namesOf c m' = namesOf c m ++ namesB (.leaf (gTop heads c S (namesOf c m) l).ss e) := fun n S m l hS hm e he => by
    obtain ⟨k, k3, kl, h1, h2, h3, h4, h5, h6⟩ := top S m l hS hm
    refine ⟨⟨h1, he.1⟩, ⟨h2, by rw [← h3]; exact he.2 _⟩, Nat.zero_le _, ?_, m + k, h4, by omega, h5⟩
    show (gTop heads c S (namesOf c m) l).ss.length + 1 ≤ 4
    omega
  induction n with
  | zero =>
    intro S m l hS hm
    obtain ⟨k, k3, kl, h1, h2, h3, h4, h5, h6⟩ := top S m l hS (by unfold nB at hm; omega)
    exact leafC 0 S m l hS (by unfold nB at hm; omega) _ ⟨(gLeaf_ok hh hn h6 [] _ _).1, fun ss => (gLeaf_ok hh hn h6 ss _ _).2⟩
  | succ n ih =>
    intro S m l hS hm
    have nb := nB_pos n
    have e : nB (n + 1) = 1 + 2 * nB n := rfl
    rw [e] at hm ⊢
    obtain ⟨k, k3, kl, h1, h2, h3, h4, h5, h6⟩ := top S m l hS (by omega)
    rw [gBlock]
    simp only []
    split
    · have ha := gAtom_ok (gTop heads c S (namesOf c m) l).sc (gNext (gTop heads c S (namesOf c m) l).l 6).2
      have hlf := h3
      generalize gTop heads c S (namesOf c m) l = t at *
      generalize gAtom t.sc (gNext t.l 6).2 = at1 at *
      rw [h4]
      obtain ⟨b1, b2, b3, b4, m1, b5, b6, b7⟩ := ih t.sc (m + k) at1.2 h6 (by omega)
      generalize gBlock heads c n t.sc (namesOf c (m + k)) at1.2 = B at *
      rw [b5]
      obtain ⟨d1, d2, d3, d4, m2, d5, d6, d7⟩ := ih t.sc m1 B.2.2 h6 (by omega)
      generalize gBlock heads c n t.sc (namesOf c m1) B.2.2 = C at *
      refine ⟨⟨h1, ha.wf h6, b1, d1⟩, ⟨h2, ?_, ?_, ?_⟩, ?_, ?_, m2, d5, by omega, ?_⟩
      · rw [← h3]
        refine ⟨fun f e => (by cases e), fun x hx => ?_⟩
        have hx' : Atom.of x ∈ [at1.1] := hx
        rw [← List.mem_singleton.mp hx'] at ha
        exact ha
      · rw [← h3, ← h5]; exact b2
      · rw [← h3, ← h5, ← b7]; exact d2
      · show 1 + max (ifsB B.1) (ifsB C.1) ≤ n + 1
        omega
      · show t.ss.length + 1 + linesB B.1 + linesB C.1 ≤ _
        omega
      · rw [d7, b7, h5, namesB, List.append_assoc, List.append_assoc]
    · obtain ⟨a1, a2, a3, a4, m', a5, a6, a7⟩ := leafC (n + 1) S m l hS (by omega) _ ⟨(gLeaf_ok hh hn h6 [] (gNext (gTop heads c S (namesOf c m) l).l 6).1 (gNext (gTop heads c S (namesOf c m) l).l 6).2).1, fun ss => (gLeaf_ok hh hn h6 ss _ _).2⟩
      exact ⟨a1, a2, a3, Nat.le_trans a4 (by omega), m', a5, by omega, a7⟩
end FK
/-! FKM10 -/
set_option maxHeartbeats 400000
namespace FK
open PySem PySem.Spec PyProof.Rows L2
open TL (tl)
theorem namesB_lines : ∀ b : Block, (namesB b).length ≤ linesB b
  | .leaf ss e => by rw [namesB, linesB, List.length_map]; omega
  | .iff ss a b c => by
    have := namesB_lines b
    have := namesB_lines c
    rw [namesB, linesB, List.length_append, List.length_append, List.length_map]
    omega
theorem heads_names (c : Int) (l : List Int) : ∀ n, (gHeadsL c n l).1.map (·.1) = namesOf c n
  | 0 => rfl
  | n + 1 => by rw [gHeadsL, List.map_append, heads_names c l n, namesOf_succ]; rfl
theorem namesOf_nodup {c : Int} : ∀ {m : Nat}, m < 936 → (namesOf c m).Nodup
  | 0, _ => List.nodup_nil
  | m + 1, h => by
    rw [namesOf_succ]
    refine List.nodup_append.mpr ⟨namesOf_nodup (by omega), by simp, fun a ha b hb z => ?_⟩
    rw [List.mem_singleton.mp hb] at z
    exact namesOf_new (c := c) (m := m) (by omega) (by rw [← z]; exact ha)
/-- what the law asks of what it built -/
def GoodP (p : Prog) : Prop := WfP p ∧ Sound p
theorem fn_good {heads : List (Str × Nat)} (hh : heads ≠ []) (hn : ∀ p ∈ heads, IsName p.1 ∧ p.2 ≤ 6) {q : Str × Nat} (hq : q ∈ heads) (l : List Int) :
    WfF (gFn heads q l).1 ∧ FnSound heads (gFn heads q l).1 ∧ ((gFn heads q l).1.name, (gFn heads q l).1.params.length) = q := by
  obtain ⟨w1, w2⟩ := hn q hq
  have hS : ∀ x ∈ namesOf (gNext l 1000000007).1 q.2, IsName x := namesOf_name (by omega)
  obtain ⟨b1, b2, b3, b4, m', b5, b6, b7⟩ := gBlock_ok (c := (gNext l 1000000007).1) hh hn 3 (namesOf (gNext l 1000000007).1 q.2) q.2 (gNext l 1000000007).2 hS (by show q.2 + 3 * 15 < 936; omega)
  have e15 : nB 3 = 15 := rfl
  rw [e15] at b4
  have nl := namesB_lines (gBlock heads (gNext l 1000000007).1 3 (namesOf (gNext l 1000000007).1 q.2) (namesOf (gNext l 1000000007).1 q.2) (gNext l 1000000007).2).1
  unfold gFn
  simp only []
  refine ⟨⟨w1, by rw [namesOf_len]; exact w2, hS, b1, Nat.le_trans b3 (by decide), b4⟩, ⟨namesOf_nodup (by omega), ?_, b2⟩, ?_⟩
  · show (namesOf _ q.2).length + _ ≤ 1000
    rw [namesOf_len]
    exact Nat.le_trans (Nat.add_le_add_left (Nat.le_trans nl b4) q.2) (by omega)
  · show (q.1, (namesOf _ q.2).length) = q
    rw [namesOf_len]
end FK
/-! FKM11 -/
set_option maxHeartbeats 400000
namespace FK
open PySem PySem.Spec PyProof.Rows L2
open TL (tl)
theorem rowsP_bound_lines {p : Prog} {k : Nat} (h : ∀ f ∈ p, linesB f.body ≤ k) : (rowsP p).length ≤ p.length * (1 + 3 * k) := by
  induction p with
  | nil => exact Nat.zero_le _
  | cons f r ih =>
    have a := ih fun g hg => h g (List.mem_cons_of_mem f hg)
    have b := rowsB_len f.body
    have c := h f List.mem_cons_self
    have e : rowsP (f :: r) = rowsF f ++ rowsP r := by rw [rowsP, rowsP, List.flatMap_cons]
    rw [e, List.length_append, List.length_cons, Nat.succ_mul]
    have d : (rowsF f).length = (rowsB f.body).length + 1 := rfl
    omega
theorem gFns_good {heads : List (Str × Nat)} (hh : heads ≠ []) (hn : ∀ p ∈ heads, IsName p.1 ∧ p.2 ≤ 6) (l : List Int) : ∀ n, n ≤ heads.length →
    (∀ f ∈ (gFns heads n l).1, WfF f ∧ FnSound heads f) ∧ ctsP (gFns heads n l).1 = heads.take n
  | 0, _ => ⟨fun f hf => (by cases hf), rfl⟩
  | n + 1, h => by
    obtain ⟨a, b⟩ := gFns_good hh hn l n (by omega)
    have hm : headAt heads (n : Int) ∈ heads := headAt_in (by omega) (by omega)
    obtain ⟨c1, c2, c3⟩ := fn_good hh hn hm (gFns heads n l).2
    have hget : heads[n]? = some (headAt heads (n : Int)) := get?_getD _ (by omega)
    rw [gFns]
    refine ⟨fun f hf => ?_, ?_⟩
    · rcases List.mem_append.mp hf with hf | hf
      · exact a f hf
      · rw [List.mem_singleton.mp hf]; exact ⟨c1, c2⟩
    · unfold ctsP at b ⊢
      rw [List.map_append, b, takeG hget, List.map_cons, List.map_nil, c3]
theorem program_good (l : List Int) : GoodP (gProgram l).1 := by
  have a := gNext_lo l (show (0 : Int) < 4 by decide)
  have b := gNext_hi l (show (0 : Int) < 4 by decide)
  unfold gProgram gHeads
  simp only []
  have hl := gHeadsL_len (gNext (gNext l 4).2 1000000007).1 (gNext (gNext l 4).2 1000000007).2 (1 + (gNext l 4).1).toNat
  have hle := gHeadsL_le (gNext (gNext l 4).2 1000000007).1 (gNext (gNext l 4).2 1000000007).2 (1 + (gNext l 4).1).toNat
  have hnm := heads_names (gNext (gNext l 4).2 1000000007).1 (gNext (gNext l 4).2 1000000007).2 (1 + (gNext l 4).1).toNat
  have n4 : (1 + (gNext l 4).1).toNat ≤ 4 := by omega
  have n1 : 1 ≤ (1 + (gNext l 4).1).toNat := by omega
  generalize (1 + (gNext l 4).1).toNat = n at *
  generalize gHeadsL (gNext (gNext l 4).2 1000000007).1 n (gNext (gNext l 4).2 1000000007).2 = hd at *
  have hh : hd.1 ≠ [] := fun z => by rw [z] at hl; simp at hl; omega
  have hn : ∀ p ∈ hd.1, IsName p.1 ∧ p.2 ≤ 6 := fun p hp => by
    refine ⟨?_, hle p hp⟩
    have : p.1 ∈ hd.1.map (·.1) := List.mem_map.mpr ⟨p, hp, rfl⟩
    rw [hnm] at this
    exact namesOf_name (by omega) _ this
  obtain ⟨c1, c2⟩ := gFns_good hh hn hd.2 hd.1.length (Nat.le_refl _)
  rw [List.take_length] at c2
  have fl := gFns_len hd.1 hd.2 hd.1.length
  generalize (gFns hd.1 hd.1.length hd.2).1 = p at *
  have pl : p.length ≤ 4 := by omega
  refine ⟨⟨fun f hf => (c1 f hf).1, by omega, ?_, fun z => by rw [z] at fl; simp at fl; omega⟩, ?_, by omega, fun f hf => ⟨(c1 f hf).1.2.2.2.2.1, by rw [c2]; exact (c1 f hf).2⟩⟩
  · have := rowsP_bound_lines fun f hf => (c1 f hf).1.2.2.2.2.2
    omega
  · have e : p.map (·.name) = (ctsP p).map (·.1) := by unfold ctsP; rw [List.map_map]; rfl
    rw [e, c2, hnm]
    exact namesOf_nodup (by omega)
end FK
/-! FKM12 -/
set_option maxHeartbeats 400000
namespace FK
open PySem PySem.Spec PyProof.Rows L2
open TL (tl)
theorem namesOf_in {c : Int} {k m : Nat} (h : k < m) : gName c k ∈ namesOf c m := List.mem_map.mpr ⟨k, List.mem_range.mpr h, rfl⟩
theorem rowSteps_succ (c s : Int) (n : Nat) : rowSteps c s (n + 1) = rowSteps c s n ++ [rowStep c s n] := by
  rw [rowSteps, rowSteps, List.range_succ, List.map_append]
  rfl
theorem rowSteps_names (c s : Int) : ∀ n, namesOf c (n + 1) = [gName c 0] ++ (rowSteps c s n).map Step.nm
  | 0 => rfl
  | n + 1 => by rw [namesOf_succ, rowSteps_names c s n, rowSteps_succ, List.map_append, List.append_assoc]; rfl
theorem rowSteps_ok (c s : Int) (cts : List (Str × Nat)) : ∀ n, n < 900 → (∀ t ∈ rowSteps c s n, WfStep t) ∧ StepsOk cts (rowSteps c s n) [gName c 0] [gName c 0]
  | 0, _ => ⟨fun t ht => (by cases ht), trivial⟩
  | n + 1, h => by
    obtain ⟨a, b⟩ := rowSteps_ok c s cts n (by omega)
    have e0 := emod_lo (s * (n : Int)) (show (0 : Int) < (n : Int) + 1 by omega)
    have e1 := emod_hi (s * (n : Int)) (show (0 : Int) < (n : Int) + 1 by omega)
    have f0 := emod_lo (s * (n : Int)) (show (0 : Int) < 2001 by decide)
    have f1 := emod_hi (s * (n : Int)) (show (0 : Int) < 2001 by decide)
    rw [rowSteps_succ]
    refine ⟨fun t ht => ?_, b.snoc ⟨fun f e => (by cases e), fun x hx => ?_⟩ ?_⟩
    · rcases List.mem_append.mp ht with ht | ht
      · exact a t ht
      · rw [List.mem_singleton.mp ht]
        refine ⟨gName_name c (by omega), (by show (("add" : Str), 2) ∈ opTab; decide +kernel), fun x hx => ?_⟩
        rcases List.mem_cons.mp hx with z | hx
        · rw [z]; exact gName_name c (by omega)
        · rw [List.mem_singleton.mp hx]; exact ⟨.int ⟨by omega, by omega⟩, by rw [partsD]; decide⟩
    · rw [← rowSteps_names]
      have hx' : Atom.of x ∈ [Atom.of (gName c (s * (n : Int) % ((n : Int) + 1)).toNat), .is (.int (s * (n : Int) % 2001 - 1000))] := hx
      rcases List.mem_cons.mp hx' with z | hx'
      · injection z with z
        rw [z]
        exact namesOf_in (by omega)
      · cases List.mem_singleton.mp hx'
    · rw [← rowSteps_names]
      exact namesOf_new (by omega)
theorem one_good {f : Fn} (h : WfF f) (g : FnSound [(f.name, f.params.length)] f) : GoodP [f] := by
  refine ⟨⟨fun x hx => by rw [List.mem_singleton.mp hx]; exact h, (by decide : 1 ≤ 200), ?_, fun z => (by cases z)⟩, List.nodup_cons.mpr ⟨fun z => (by cases z), List.nodup_nil⟩, (by decide : 1 ≤ 200), fun x hx => by rw [List.mem_singleton.mp hx]; exact ⟨h.2.2.2.2.1, g⟩⟩
  have := rowsP_bound_lines (p := [f]) (k := 60) fun x hx => by rw [List.mem_singleton.mp hx]; exact h.2.2.2.2.2
  have e : [f].length = 1 := rfl
  omega
theorem rows_good (l : List Int) : GoodP (gRows l).1 := by
  unfold gRows
  simp only []
  have hm := rowsMany_le (gNext (gNext l 1000000007).2 1000003).1
  generalize rowsMany (gNext (gNext l 1000000007).2 1000003).1 = n at *
  generalize (gNext l 1000000007).1 = c at *
  generalize (gNext (gNext l 1000000007).2 1000003).1 = s at *
  obtain ⟨a, b⟩ := rowSteps_ok c s [(gName s 0, 1)] n (by omega)
  have nm := rowSteps_names c s n
  have ln : (rowSteps c s n).length = n := by rw [rowSteps, List.length_map, List.length_range]
  have lb : linesB (.leaf (rowSteps c s n) (.give (.of (gName c n)))) ≤ 60 := by show (rowSteps c s n).length + 1 ≤ 60; omega
  refine one_good ⟨gName_name s (by decide), (by decide : 1 ≤ 6), fun p hp => by rw [List.mem_singleton.mp hp]; exact gName_name c (by decide), ⟨a, gName_name c (by omega)⟩, Nat.zero_le _, lb⟩ ⟨List.nodup_cons.mpr ⟨fun z => (by cases z), List.nodup_nil⟩, ?_, b, fun f e => (by cases e), fun x hx => ?_⟩
  · have := namesB_lines (.leaf (rowSteps c s n) (.give (.of (gName c n))))
    exact Nat.le_trans (Nat.add_le_add_left (Nat.le_trans this lb) 1) (by decide)
  · rw [← nm]
    have hx' : Atom.of x ∈ [Atom.of (gName c n)] := hx
    injection List.mem_singleton.mp hx' with z
    rw [z]
    exact namesOf_in (by omega)
end FK
/-! FKM13 -/
set_option maxHeartbeats 400000
namespace FK
open PySem PySem.Spec PyProof.Rows L2
open TL (tl)
theorem deep_ok (c bits : Int) (cts : List (Str × Nat)) : ∀ (k : Nat) (l : List Int), k ≤ 8 → WfB (gDeepB c bits k l).1 ∧ BlockOk cts (gDeepB c bits k l).1 (namesOf c (9 - k)) (namesOf c (9 - k)) ∧ ifsB (gDeepB c bits k l).1 ≤ k ∧ linesB (gDeepB c bits k l).1 ≤ 1 + 3 * k
  | 0, l, _ => by
    refine ⟨⟨fun s hs => (by cases hs), gName_name c (by decide)⟩, ⟨trivial, fun f e => (by cases e), fun x hx => ?_⟩, Nat.le_refl _, Nat.le_refl _⟩
    have hx' : Atom.of x ∈ [Atom.of (gName c 8)] := hx
    injection List.mem_singleton.mp hx' with z
    rw [z]
    show gName c 8 ∈ namesOf c 9 ++ []
    rw [List.append_nil]
    exact namesOf_in (by decide)
  | k + 1, l, h => by
    obtain ⟨a1, a2, a3, a4⟩ := deep_ok c bits cts k l (by omega)
    have en : namesOf c (9 - k) = namesOf c (8 - k) ++ [gName c (8 - k)] := by
      have e : 9 - k = (8 - k) + 1 := by omega
      rw [e, namesOf_succ]
    have ek : 9 - (k + 1) = 8 - k := by omega
    have wst : WfStep (.let_ (gName c (8 - k)) "down" [.of (gName c (7 - k))]) := ⟨gName_name c (by omega), (by show (("down" : Str), 1) ∈ opTab; decide +kernel), fun x hx => by rw [List.mem_singleton.mp hx]; exact gName_name c (by omega)⟩
    have sok : StepsOk cts [.let_ (gName c (8 - k)) "down" [.of (gName c (7 - k))]] (namesOf c (8 - k)) (namesOf c (8 - k)) := by
      refine ⟨⟨fun f e => (by cases e), fun x hx => ?_⟩, namesOf_new (by omega), trivial⟩
      have hx' : Atom.of x ∈ [Atom.of (gName c (7 - k))] := hx
      injection List.mem_singleton.mp hx' with z
      rw [z]
      exact namesOf_in (by omega)
    have lok : ∀ b d, LineOk cts (namesOf c (8 - k) ++ [gName c (8 - k)]) (.en (.iff [.let_ (gName c (8 - k)) "down" [.of (gName c (7 - k))]] (.of (gName c (8 - k))) b d)) := fun b d => by
      refine ⟨fun f e => (by cases e), fun x hx => ?_⟩
      have hx' : Atom.of x ∈ [Atom.of (gName c (8 - k))] := hx
      injection List.mem_singleton.mp hx' with z
      rw [z]
      simp
    rw [gDeepB, ek]
    simp only []
    rw [en] at a2
    split
    · have w2 : WfB (.leaf [] (.give (.is (.int (k : Int))))) := ⟨fun s hs => (by cases hs), .int ⟨by omega, by omega⟩, by rw [partsD]; decide⟩
      refine ⟨⟨fun s hs => by rw [List.mem_singleton.mp hs]; exact wst, gName_name c (by omega), w2, a1⟩, ⟨sok, lok _ _, ⟨trivial, fun f e => (by cases e), fun x hx => ?_⟩, ?_⟩, ?_, ?_⟩
      · have hx' : Atom.of x ∈ [Atom.is (.int (k : Int))] := hx
        cases List.mem_singleton.mp hx'
      · show BlockOk cts _ (namesOf c (8 - k) ++ [gName c (8 - k)]) (namesOf c (8 - k) ++ [gName c (8 - k)] ++ [])
        rw [List.append_nil]
        exact a2
      · show 1 + max 0 (ifsB _) ≤ k + 1
        omega
      · show 1 + 1 + 1 + linesB _ ≤ _
        omega
    · have w2 : WfB (.leaf [] (.fail (gWord (gDeepB c bits k l).2).1)) := ⟨fun s hs => (by cases hs), word_ok _⟩
      refine ⟨⟨fun s hs => by rw [List.mem_singleton.mp hs]; exact wst, gName_name c (by omega), a1, w2⟩, ⟨sok, lok _ _, a2, trivial, fun f e => (by cases e), fun x hx => (by cases hx)⟩, ?_, ?_⟩
      · show 1 + max (ifsB _) 0 ≤ k + 1
        omega
      · show 1 + 1 + linesB _ + 1 ≤ _
        omega
theorem deep_good (l : List Int) : GoodP (gDeep l).1 := by
  unfold gDeep
  simp only []
  generalize (gNext l 1000000007).1 = c at *
  generalize (gNext (gNext l 1000000007).2 256).1 = bits at *
  generalize (gNext (gNext l 1000000007).2 256).2 = l2 at *
  obtain ⟨a1, a2, a3, a4⟩ := deep_ok c bits [(gName bits 0, 1)] 8 l2 (by decide)
  have nl := namesB_lines (gDeepB c bits 8 l2).1
  refine one_good ⟨gName_name bits (by decide), (by decide : 1 ≤ 6), fun p hp => by rw [List.mem_singleton.mp hp]; exact gName_name c (by decide), a1, a3, Nat.le_trans a4 (by decide)⟩ ⟨List.nodup_cons.mpr ⟨fun z => (by cases z), List.nodup_nil⟩, ?_, a2⟩
  exact Nat.le_trans (Nat.add_le_add_left (Nat.le_trans nl a4) 1) (by decide)
end FK
/-! FKM14 -/
set_option maxHeartbeats 400000
namespace FK
open PySem PySem.Spec PyProof.Rows L2
open TL (tl)
theorem long_good (l : List Int) : GoodP (gLong l).1 := by
  unfold gLong
  simp only []
  obtain ⟨m1, m2⟩ := longMany_le (1 + 2 * (gNext (gNext l 1000000007).2 100).1)
  generalize longMany (1 + 2 * (gNext (gNext l 1000000007).2 100).1) = m at *
  generalize (gNext l 1000000007).1 = c at *
  generalize 1 + 2 * (gNext (gNext l 1000000007).2 100).1 = s at *
  have pl : ((List.range m).map (longFn c s m)).length = m := by rw [List.length_map, List.length_range]
  have mem : ∀ f ∈ (List.range m).map (longFn c s m), ∃ k, k < m ∧ f = longFn c s m k := fun f hf => by
    obtain ⟨k, hk, e⟩ := List.mem_map.mp hf
    exact ⟨k, List.mem_range.mp hk, e.symm⟩
  have idx : ∀ k : Nat, (((k : Int) * s + 1) % (m : Int)).toNat < m := fun k => by
    have := emod_lo ((k : Int) * s + 1) (show (0 : Int) < (m : Int) by omega)
    have := emod_hi ((k : Int) * s + 1) (show (0 : Int) < (m : Int) by omega)
    omega
  refine ⟨⟨fun f hf => ?_, by omega, ?_, fun z => by rw [z] at pl; simp at pl; omega⟩, ?_, by omega, fun f hf => ?_⟩
  · obtain ⟨k, hk, rfl⟩ := mem f hf
    exact ⟨gName_name c (by omega), Nat.zero_le _, fun p hp => (by cases hp), ⟨fun s hs => (by cases hs), gName_name c (by have := idx k; omega), Nat.zero_le _, fun a ha => (by cases ha)⟩, Nat.zero_le _, (by decide : 1 ≤ 60)⟩
  · have := rowsP_bound_lines (p := (List.range m).map (longFn c s m)) (k := 1) fun f hf => by
      obtain ⟨k, _, rfl⟩ := mem f hf
      exact Nat.le_refl 1
    rw [pl] at this
    omega
  · have e : ((List.range m).map (longFn c s m)).map (·.name) = namesOf c m := by rw [List.map_map]; rfl
    rw [e]
    exact namesOf_nodup (by omega)
  · obtain ⟨k, hk, rfl⟩ := mem f hf
    refine ⟨Nat.zero_le _, List.nodup_nil, Nat.zero_le _, trivial, fun f e => ?_, fun x hx => (by cases hx)⟩
    have e' : gName c (((k : Int) * s + 1) % (m : Int)).toNat = f := Option.some.inj e
    rw [← e']
    exact List.mem_map.mpr ⟨longFn c s m (((k : Int) * s + 1) % (m : Int)).toNat, List.mem_map.mpr ⟨_, List.mem_range.mpr (idx k), rfl⟩, rfl⟩
theorem wide_mem {c : Int} {a : Atom} (h : a ∈ wideOf c) : ∃ x, a = .of x ∧ x ∈ namesOf c 6 := by
  obtain ⟨x, hx, rfl⟩ := List.mem_map.mp h
  exact ⟨x, rfl, List.mem_reverse.mp hx⟩
theorem wide_good (l : List Int) : GoodP (gWide l).1 := by
  unfold gWide
  simp only []
  obtain ⟨v1, v2⟩ := large_ok (gNext l 1000000007).2
  generalize (gLarge (gNext l 1000000007).2).1 = v at *
  generalize (gNext l 1000000007).1 = c at *
  have wm : ∀ a ∈ wideOf c, WfAtom a := fun a ha => by
    obtain ⟨x, rfl, hx⟩ := wide_mem ha
    exact namesOf_name (by decide) x hx
  have wi : ∀ x, Atom.of x ∈ wideOf c → x ∈ namesOf c 6 := fun x hx => by
    obtain ⟨y, e, hy⟩ := wide_mem hx
    injection e with e
    rw [e]; exact hy
  have n0 : IsName (gName c 0) := gName_name c (by decide)
  have n6 : IsName (gName c 6) := gName_name c (by decide)
  have n7 : IsName (gName c 7) := gName_name c (by decide)
  have s7 : namesOf c 7 = namesOf c 6 ++ [gName c 6] := namesOf_succ c 6
  have wv : WfAtom (.is v) := ⟨v1, v2⟩
  have l2 : ([Atom.is v] ++ (wideOf c).take 2).length = 3 := rfl
  have l4 : ([Atom.is v, .of (gName c 6)] ++ (wideOf c).drop 2).length = 6 := rfl
  have a2 : ∀ a ∈ [Atom.is v] ++ (wideOf c).take 2, WfAtom a := fun a ha => by
    rcases List.mem_append.mp ha with ha | ha
    · rw [List.mem_singleton.mp ha]; exact wv
    · exact wm a (List.mem_of_mem_take ha)
  have a4 : ∀ a ∈ [Atom.is v, .of (gName c 6)] ++ (wideOf c).drop 2, WfAtom a := fun a ha => by
    rcases List.mem_append.mp ha with ha | ha
    · rcases List.mem_cons.mp ha with z | ha
      · rw [z]; exact wv
      · rw [List.mem_singleton.mp ha]; exact n6
    · exact wm a (List.mem_of_mem_drop ha)
  have i2 : ∀ x, Atom.of x ∈ [Atom.is v] ++ (wideOf c).take 2 → x ∈ namesOf c 6 := fun x hx => by
    rcases List.mem_append.mp hx with hx | hx
    · cases List.mem_singleton.mp hx
    · exact wi x (List.mem_of_mem_take hx)
  have i4 : ∀ x, Atom.of x ∈ [Atom.is v, .of (gName c 6)] ++ (wideOf c).drop 2 → x ∈ namesOf c 7 := fun x hx => by
    rw [s7]
    rcases List.mem_append.mp hx with hx | hx
    · rcases List.mem_cons.mp hx with z | hx
      · cases z
      · injection List.mem_singleton.mp hx with z
        rw [z]; simp
    · exact List.mem_append_left _ (wi x (List.mem_of_mem_drop hx))
  have six : (namesOf c 6).length = 6 := namesOf_len c 6
  generalize hA : [Atom.is v] ++ (wideOf c).take 2 = A at *
  generalize hB : [Atom.is v, .of (gName c 6)] ++ (wideOf c).drop 2 = B at *
  have w6 : (wideOf c).length = 6 := rfl
  generalize wideOf c = W at *
  refine one_good ⟨n0, Nat.le_of_eq six, namesOf_name (by decide), ⟨fun s hs => ?_, n0, Nat.le_of_eq l4, a4⟩, Nat.zero_le _, (by decide : 3 ≤ 60)⟩ ⟨namesOf_nodup (by decide), ?_, ⟨⟨fun f e => ?_, wi⟩, namesOf_new (by decide), ⟨fun f e => (by cases e), fun x hx => List.mem_append_left _ (i2 x hx)⟩, ?_, trivial⟩, fun f e => ?_, fun x hx => ?_⟩
  · rcases List.mem_cons.mp hs with z | hs
    · rw [z]; exact ⟨n6, n0, Nat.le_of_eq w6, wm⟩
    · rw [List.mem_singleton.mp hs]
      exact ⟨n7, (by rw [l2]; decide +kernel), a2⟩
  · show (namesOf c 6).length + 2 ≤ 1000
    omega
  · have e' : gName c 0 = f := Option.some.inj e
    rw [← e']
    show (gName c 0, W.length) ∈ [(gName c 0, (namesOf c 6).length)]
    rw [w6, six]
    exact List.mem_singleton.mpr rfl
  · rw [show namesOf c 6 ++ [Step.nm (.call (gName c 6) (gName c 0) W)] = namesOf c 7 from s7.symm]
    exact namesOf_new (by decide)
  · have e' : gName c 0 = f := Option.some.inj e
    rw [← e']
    show (gName c 0, B.length) ∈ [(gName c 0, (namesOf c 6).length)]
    rw [l4, six]
    exact List.mem_singleton.mpr rfl
  · have := i4 x hx
    rw [s7] at this
    show x ∈ namesOf c 6 ++ [gName c 6, gName c 7]
    rcases List.mem_append.mp this with h | h
    · exact List.mem_append_left _ h
    · rw [List.mem_singleton.mp h]; simp
end FK
/-! FKM15 -/
set_option maxHeartbeats 400000
namespace FK
open PySem PySem.Spec PyProof.Rows L2
open TL (tl)
theorem lastS_mem {l : List Str} (h : l ≠ []) : lastS l ∈ l := getD_mem (by have := List.length_pos_iff.mpr h; omega)
theorem brSteps_ok {c : Int} {S : List Str} {m : Nat} (cts : List (Str × Nat)) (h0 : S ≠ []) (hS : ∀ x ∈ S, IsName x) : ∀ n, m + n < 936 →
    (∀ s ∈ (brSteps c n ⟨[], S, namesOf c m⟩).ss, WfStep s) ∧
    (brSteps c n ⟨[], S, namesOf c m⟩).sc = S ++ (brSteps c n ⟨[], S, namesOf c m⟩).ss.map Step.nm ∧
    (brSteps c n ⟨[], S, namesOf c m⟩).us = namesOf c (m + n) ∧
    (∀ x ∈ (brSteps c n ⟨[], S, namesOf c m⟩).ss.map Step.nm, ∃ k, m ≤ k ∧ k < m + n ∧ x = gName c k) ∧
    (∀ Tk, (∀ k, m ≤ k → k < m + n → gName c k ∉ Tk) → StepsOk cts (brSteps c n ⟨[], S, namesOf c m⟩).ss S Tk) ∧
    (∀ x ∈ (brSteps c n ⟨[], S, namesOf c m⟩).sc, IsName x)
  | 0, _ => ⟨fun s hs => (by cases hs), (List.append_nil S).symm, rfl, fun x hx => (by cases hx), fun _ _ => trivial, hS⟩
  | n + 1, h => by
    obtain ⟨h1, h2, h3, h4, h5, h6⟩ := brSteps_ok (m := m) cts h0 hS n (by omega)
    rw [brSteps]
    generalize brSteps c n ⟨[], S, namesOf c m⟩ = t at *
    have el : t.us.length = m + n := by rw [h3, namesOf_len]
    rw [el]
    have s0 : t.sc ≠ [] := fun z => by rw [h2] at z; exact h0 (List.append_eq_nil_iff.mp z).1
    have lm := lastS_mem s0
    refine ⟨fun s hs => ?_, ?_, ?_, fun x hx => ?_, fun Tk hT => (h5 Tk fun k a b => hT k a (by omega)).snoc ⟨fun f e => (by cases e), fun x hx => ?_⟩ fun z => ?_, fun x hx => ?_⟩
    · rcases List.mem_append.mp hs with hs | hs
      · exact h1 s hs
      · rw [List.mem_singleton.mp hs]
        refine ⟨gName_name c (by omega), (by show (("add" : Str), 2) ∈ opTab; decide +kernel), fun x hx => ?_⟩
        rcases List.mem_cons.mp hx with z | hx
        · rw [z]; exact h6 _ lm
        · rw [List.mem_singleton.mp hx]; exact ⟨.int ⟨by omega, by omega⟩, by rw [partsD]; decide⟩
    · show t.sc ++ [gName c (m + n)] = _
      rw [List.map_append, ← List.append_assoc, ← h2]
      rfl
    · show t.us ++ [gName c (m + n)] = namesOf c (m + n + 1)
      rw [namesOf_succ, h3]
    · rw [List.map_append] at hx
      rcases List.mem_append.mp hx with hx | hx
      · obtain ⟨k, a, b, e⟩ := h4 x hx
        exact ⟨k, a, by omega, e⟩
      · exact ⟨m + n, by omega, by omega, List.mem_singleton.mp hx⟩
    · rw [← h2]
      have hx' : Atom.of x ∈ [Atom.of (lastS t.sc), .is (.int ((m + n : Nat) : Int))] := hx
      rcases List.mem_cons.mp hx' with z | hx'
      · injection z with z
        rw [z]; exact lm
      · cases List.mem_singleton.mp hx'
    · have z' : gName c (m + n) ∈ Tk ++ t.ss.map Step.nm := z
      rcases List.mem_append.mp z' with z | z
      · exact hT (m + n) (by omega) (by omega) z
      · obtain ⟨k, a, b, e⟩ := h4 _ z
        have := gName_inj (by omega) (by omega) e
        omega
    · rcases List.mem_append.mp hx with hx | hx
      · exact h6 x hx
      · rw [List.mem_singleton.mp hx]; exact gName_name c (by omega)
theorem gBr_ok {c : Int} (cts : List (Str × Nat)) : ∀ (d : Nat) (m : Nat) (S : List Str) (l : List Int) (room : Nat), S ≠ [] → (∀ x ∈ S, IsName x) → m + room < 936 →
    WfB (gBr c d (namesOf c m) S l room).b ∧ ifsB (gBr c d (namesOf c m) S l room).b ≤ d ∧
    ∃ m', (gBr c d (namesOf c m) S l room).us = namesOf c m' ∧ m ≤ m' ∧ m' + (gBr c d (namesOf c m) S l room).room = m + room ∧ linesB (gBr c d (namesOf c m) S l room).b = (m' - m) + nB d ∧
      (∀ x ∈ namesB (gBr c d (namesOf c m) S l room).b, ∃ k, m ≤ k ∧ k < m' ∧ x = gName c k) ∧
      ∀ Tk, (∀ k, m ≤ k → k < m' → gName c k ∉ Tk) → BlockOk cts (gBr c d (namesOf c m) S l room).b S Tk
  | 0, m, S, l, room, h0, hS, h => by
    obtain ⟨b1, b2⟩ := brN_le l room
    obtain ⟨h1, h2, h3, h4, h5, h6⟩ := brSteps_ok (c := c) (m := m) cts h0 hS (brN l room) (by omega)
    obtain ⟨n1, _, _⟩ := brSteps_len (c := c) (t := ⟨[], S, namesOf c m⟩) (brN l room)
    rw [gBr]
    simp only []
    generalize brN l room = n at *
    generalize brSteps c n ⟨[], S, namesOf c m⟩ = t at *
    have s0 : t.sc ≠ [] := fun z => by rw [h2] at z; exact h0 (List.append_eq_nil_iff.mp z).1
    have lm := lastS_mem s0
    have n1' : t.ss.length = 0 + n := n1
    refine ⟨⟨h1, h6 _ lm⟩, Nat.zero_le _, m + n, h3, by omega, by omega, ?_, h4, fun Tk hT => ⟨h5 Tk hT, fun f e => (by cases e), fun x hx => ?_⟩⟩
    · show t.ss.length + 1 = m + n - m + 1
      omega
    · rw [← h2]
      have hx' : Atom.of x ∈ [Atom.of (lastS t.sc)] := hx
      injection List.mem_singleton.mp hx' with z
      rw [z]; exact lm
  | d + 1, m, S, l, room, h0, hS, h => by
    obtain ⟨b1, b2⟩ := brN_le l room
    obtain ⟨h1, h2, h3, h4, h5, h6⟩ := brSteps_ok (c := c) (m := m) cts h0 hS (brN l room) (by omega)
    obtain ⟨n1, _, _⟩ := brSteps_len (c := c) (t := ⟨[], S, namesOf c m⟩) (brN l room)
    rw [gBr]
    simp only []
    generalize brN l room = n at *
    generalize brSteps c n ⟨[], S, namesOf c m⟩ = t at *
    have s0 : t.sc ≠ [] := fun z => by rw [h2] at z; exact h0 (List.append_eq_nil_iff.mp z).1
    have lm : t.sc.getD 0 Str.empty ∈ t.sc := getD_mem (List.length_pos_iff.mpr s0)
    have n1' : t.ss.length = 0 + n := n1
    rw [h3]
    obtain ⟨p1, p2, m1, p3, p4, p5, p6, p7, p8⟩ := gBr_ok (c := c) cts d (m + n) t.sc (gNext l 4).2 (room - n) s0 h6 (by omega)
    generalize gBr c d (namesOf c (m + n)) t.sc (gNext l 4).2 (room - n) = p at *
    rw [p3]
    obtain ⟨q1, q2, m2, q3, q4, q5, q6, q7, q8⟩ := gBr_ok (c := c) cts d m1 t.sc p.l p.room s0 h6 (by omega)
    generalize gBr c d (namesOf c m1) t.sc p.l p.room = q at *
    have e : nB (d + 1) = 1 + 2 * nB d := rfl
    have no4 : ∀ k, m + n ≤ k → k < 936 → gName c k ∉ t.ss.map Step.nm := fun k a b z => by
      obtain ⟨j, j1, j2, e⟩ := h4 _ z
      have := gName_inj (by omega) (by omega) e
      omega
    have no7 : ∀ k, m1 ≤ k → k < 936 → gName c k ∉ namesB p.b := fun k a b z => by
      obtain ⟨j, j1, j2, e⟩ := p7 _ z
      have := gName_inj (by omega) (by omega) e
      omega
    refine ⟨⟨h1, h6 _ lm, p1, q1⟩, ?_, m2, q3, by omega, by omega, ?_, fun x hx => ?_, fun Tk hT => ⟨h5 Tk fun k a b => hT k a (by omega), ⟨fun f e => (by cases e), fun x hx => ?_⟩, ?_, ?_⟩⟩
    · show 1 + max (ifsB p.b) (ifsB q.b) ≤ d + 1
      omega
    · show t.ss.length + 1 + linesB p.b + linesB q.b = _
      omega
    · have hx' : x ∈ t.ss.map Step.nm ++ (namesB p.b ++ namesB q.b) := hx
      rcases List.mem_append.mp hx' with hx | hx
      · obtain ⟨k, a, b, e⟩ := h4 x hx
        exact ⟨k, a, by omega, e⟩
      rcases List.mem_append.mp hx with hx | hx
      · obtain ⟨k, a, b, e⟩ := p7 x hx
        exact ⟨k, by omega, by omega, e⟩
      · obtain ⟨k, a, b, e⟩ := q7 x hx
        exact ⟨k, by omega, by omega, e⟩
    · rw [← h2]
      have hx' : Atom.of x ∈ [Atom.of (t.sc.getD 0 Str.empty)] := hx
      injection List.mem_singleton.mp hx' with z
      rw [z]; exact lm
    · rw [← h2]
      refine p8 _ fun k a b z => ?_
      rcases List.mem_append.mp z with z | z
      · exact hT k (by omega) (by omega) z
      · exact no4 k a (by omega) z
    · rw [← h2]
      refine q8 _ fun k a b z => ?_
      rcases List.mem_append.mp z with z | z
      · rcases List.mem_append.mp z with z | z
        · exact hT k (by omega) (by omega) z
        · exact no4 k (by omega) (by omega) z
      · exact no7 k a (by omega) z
end FK
/-! FKM16 -/
set_option maxHeartbeats 400000
namespace FK
open PySem PySem.Spec PyProof.Rows L2
open TL (tl)
/-! ### more in scope does no harm -/
theorem LineOk.wide {cts : List (Str × Nat)} {S S' : List Str} {l : Line} (h : LineOk cts S l) (k : ∀ x ∈ S, x ∈ S') : LineOk cts S' l := ⟨h.1, fun x hx => k x (h.2 x hx)⟩
theorem widen {S S' T : List Str} (k : ∀ x ∈ S, x ∈ S') : ∀ x ∈ S ++ T, x ∈ S' ++ T := fun x hx => (List.mem_append.mp hx).elim (fun h => List.mem_append_left _ (k x h)) fun h => List.mem_append_right _ h
theorem StepsOk.wide {cts : List (Str × Nat)} : ∀ {ss : List Step} {S S' Tk : List Str}, StepsOk cts ss S Tk → (∀ x ∈ S, x ∈ S') → StepsOk cts ss S' Tk
  | [], _, _, _, _, _ => trivial
  | s :: r, S, S', Tk, h, k => ⟨h.1.wide k, h.2.1, StepsOk.wide h.2.2 (widen k)⟩
theorem BlockOk.wide {cts : List (Str × Nat)} : ∀ {b : Block} {S S' Tk : List Str}, BlockOk cts b S Tk → (∀ x ∈ S, x ∈ S') → BlockOk cts b S' Tk
  | .leaf ss e, S, S', Tk, h, k => ⟨h.1.wide k, h.2.wide (widen k)⟩
  | .iff ss a b c, S, S', Tk, h, k => ⟨h.1.wide k, h.2.1.wide (widen k), BlockOk.wide h.2.2.1 (widen k), BlockOk.wide h.2.2.2 (widen k)⟩
theorem treeSteps_succ (c : Int) (u0 : Str) (j n : Nat) : treeSteps c u0 j (n + 1) = treeSteps c u0 j n ++ [treeStep c u0 j n] := by
  rw [treeSteps, treeSteps, List.range_succ, List.map_append]
  rfl
theorem treeSteps_ok {c : Int} (cts : List (Str × Nat)) {j : Nat} {S : List Str} (h0 : gName c 0 ∈ S) : ∀ n, j + n < 936 →
    (∀ s ∈ treeSteps c (gName c 0) j n, WfStep s) ∧ (∀ x ∈ (treeSteps c (gName c 0) j n).map Step.nm, ∃ k, j ≤ k ∧ k < j + n ∧ x = gName c k) ∧
    ∀ Tk, (∀ k, j ≤ k → k < j + n → gName c k ∉ Tk) → StepsOk cts (treeSteps c (gName c 0) j n) S Tk
  | 0, _ => ⟨fun s hs => (by cases hs), fun x hx => (by cases hx), fun _ _ => trivial⟩
  | n + 1, h => by
    obtain ⟨h1, h2, h3⟩ := treeSteps_ok (c := c) (j := j) cts h0 n (by omega)
    rw [treeSteps_succ]
    refine ⟨fun s hs => ?_, fun x hx => ?_, fun Tk hT => (h3 Tk fun k a b => hT k a (by omega)).snoc ⟨fun f e => (by cases e), fun x hx => ?_⟩ fun z => ?_⟩
    · rcases List.mem_append.mp hs with hs | hs
      · exact h1 s hs
      · rw [List.mem_singleton.mp hs]
        refine ⟨gName_name c (by omega), (by show (("less" : Str), 2) ∈ opTab; decide +kernel), fun x hx => ?_⟩
        rcases List.mem_cons.mp hx with z | hx
        · rw [z]; exact ⟨.int ⟨by omega, by omega⟩, by rw [partsD]; decide⟩
        · rw [List.mem_singleton.mp hx]; exact gName_name c (by decide)
    · rw [List.map_append] at hx
      rcases List.mem_append.mp hx with hx | hx
      · obtain ⟨k, a, b, e⟩ := h2 x hx
        exact ⟨k, a, by omega, e⟩
      · exact ⟨j + n, by omega, by omega, List.mem_singleton.mp hx⟩
    · have hx' : Atom.of x ∈ [Atom.is (.int (n : Int)), .of (gName c 0)] := hx
      rcases List.mem_cons.mp hx' with z | hx'
      · cases z
      · injection List.mem_singleton.mp hx' with z
        rw [z]; exact List.mem_append_left _ h0
    · have z' : gName c (j + n) ∈ Tk ++ (treeSteps c (gName c 0) j n).map Step.nm := z
      rcases List.mem_append.mp z' with z | z
      · exact hT (j + n) (by omega) (by omega) z
      · obtain ⟨k, a, b, e⟩ := h2 _ z
        have := gName_inj (by omega) (by omega) e
        omega
theorem lastS_app {a b : List Str} (h : b ≠ []) : lastS (a ++ b) = lastS b := by
  have hb := List.length_pos_iff.mpr h
  unfold lastS
  rw [List.getD_eq_getElem?_getD, List.getD_eq_getElem?_getD, List.length_append, List.getElem?_append_right (by omega)]
  congr 2
  omega
theorem tree_good {most : Nat} (h31 : 31 ≤ most) (h60 : most ≤ 60) (l : List Int) : GoodP (gTree most l).1 := by
  unfold gTree
  simp only []
  generalize (gNext l 1000000007).1 = c at *
  generalize (gNext l 1000000007).2 = l1 at *
  have n0 : IsName (gName c 0) := gName_name c (by decide)
  have e1 : [gName c 0] = namesOf c 1 := rfl
  have hS : ∀ x ∈ [gName c 0], IsName x := fun x hx => by rw [List.mem_singleton.mp hx]; exact n0
  have h0 : [gName c 0] ≠ [] := fun z => by cases z
  obtain ⟨p1, p2, m1, p3, p4, p5, p6, p7, p8⟩ := gBr_ok (c := c) [(gName c 90, 1)] 3 1 [gName c 0] l1 (most - 31) h0 hS (by omega)
  rw [← e1] at p1 p2 p3 p5 p6 p7 p8
  generalize gBr c 3 [gName c 0] [gName c 0] l1 (most - 31) = p at *
  rw [p3]
  obtain ⟨q1, q2, m2, q3, q4, q5, q6, q7, q8⟩ := gBr_ok (c := c) [(gName c 90, 1)] 3 m1 [gName c 0] p.l p.room h0 hS (by omega)
  generalize gBr c 3 (namesOf c m1) [gName c 0] p.l p.room = q at *
  have ul : q.us.length = m2 := by rw [q3, namesOf_len]
  obtain ⟨t1, t2, t3⟩ := treeSteps_ok (c := c) [(gName c 90, 1)] (j := m2) (S := [gName c 0]) (List.mem_singleton.mpr rfl) q.room (by omega)
  have tl : (treeSteps c (gName c 0) m2 q.room).length = q.room := by rw [treeSteps, List.length_map, List.length_range]
  have tn : (treeSteps c (gName c 0) m2 q.room).map Step.nm = (List.range q.room).map fun k => gName c (m2 + k) := by rw [treeSteps, List.map_map]; rfl
  have la : (if 0 < q.room then lastS (treeUs c q.us q.room) else gName c 0) ∈ [gName c 0] ++ (treeSteps c (gName c 0) m2 q.room).map Step.nm := by
    split
    · rename_i z
      have ne : (List.range q.room).map (fun k => gName c (m2 + k)) ≠ [] := fun y => by
        have := congrArg List.length y
        rw [List.length_map, List.length_range] at this
        simp at this
        omega
      refine List.mem_append_right _ ?_
      rw [treeUs, ul, lastS_app ne, tn]
      exact lastS_mem ne
    · exact List.mem_append_left _ (List.mem_singleton.mpr rfl)
  have e15 : nB 3 = 15 := rfl
  rw [ul]
  generalize (if 0 < q.room then lastS (treeUs c q.us q.room) else gName c 0) = u at *
  generalize treeSteps c (gName c 0) m2 q.room = ss at *
  have isn : ∀ x ∈ [gName c 0] ++ ss.map Step.nm, IsName x := fun x hx => by
    rcases List.mem_append.mp hx with hx | hx
    · exact hS x hx
    · obtain ⟨k, a, b, e⟩ := t2 x hx
      rw [e]; exact gName_name c (by omega)
  have not0 : ∀ k, 1 ≤ k → k < 936 → gName c k ∉ [gName c 0] := fun k a b z => by
    have := gName_inj (by omega) (by omega) (List.mem_singleton.mp z)
    omega
  have not2 : ∀ k, k < m2 → gName c k ∉ ss.map Step.nm := fun k b z => by
    obtain ⟨j, j1, j2, e⟩ := t2 _ z
    have := gName_inj (by omega) (by omega) e
    omega
  have lb : linesB (.iff ss (.of u) p.b q.b) ≤ 60 := by
    show ss.length + 1 + linesB p.b + linesB q.b ≤ 60
    omega
  have nl := namesB_lines (.iff ss (.of u) p.b q.b)
  have sub : ∀ x ∈ [gName c 0], x ∈ [gName c 0] ++ ss.map Step.nm := fun x hx => List.mem_append_left _ hx
  refine one_good ⟨gName_name c (by decide), (by decide : 1 ≤ 6), hS, ⟨t1, isn _ la, p1, q1⟩, ?_, lb⟩ ⟨List.nodup_cons.mpr ⟨fun z => (by cases z), List.nodup_nil⟩, ?_, t3 _ fun k a b => not0 k (by omega) (by omega), ⟨fun f e => (by cases e), fun x hx => ?_⟩, (p8 _ fun k a b z => ?_).wide sub, (q8 _ fun k a b z => ?_).wide sub⟩
  · show 1 + max (ifsB p.b) (ifsB q.b) ≤ 8
    omega
  · show 1 + (namesB (.iff ss (.of u) p.b q.b)).length ≤ 1000
    omega
  · have hx' : Atom.of x ∈ [Atom.of u] := hx
    injection List.mem_singleton.mp hx' with z
    rw [z]; exact la
  · rcases List.mem_append.mp z with z | z
    · exact not0 k a (by omega) z
    · exact not2 k (by omega) z
  · rcases List.mem_append.mp z with z | z
    · rcases List.mem_append.mp z with z | z
      · exact not0 k (by omega) (by omega) z
      · exact not2 k (by omega) z
    · obtain ⟨j, j1, j2, e⟩ := p7 _ z
      have := gName_inj (by omega) (by omega) e
      omega
theorem any_good (l : List Int) : GoodP (gAny l).1 := by
  have a := gNext_lo l (show (0 : Int) < 12 by decide)
  unfold gAny
  simp only []
  split
  · exact rows_good _
  split
  · exact deep_good _
  split
  · exact long_good _
  split
  · exact wide_good _
  split
  · exact tree_good (by omega) (by omega) _
  · exact program_good _
end FK
/-! FKN1 -/
set_option maxHeartbeats 400000
namespace FK
open PySem PySem.Spec PyProof.Rows L2
open TL (tl)
/-! ### a program with its records in order -/
def normA : Atom → Atom
  | .is d => .is (normD d)
  | .of n => .of n
def normS : Step → Step
  | .let_ n op as => .let_ n op (as.map normA)
  | .call n f as => .call n f (as.map normA)
def normE : Leaf → Leaf
  | .give a => .give (normA a)
  | .go f as => .go f (as.map normA)
  | .fail w => .fail w
def normB : Block → Block
  | .leaf ss e => .leaf (ss.map normS) (normE e)
  | .iff ss a b c => .iff (ss.map normS) (normA a) (normB b) (normB c)
def normF (f : Fn) : Fn := ⟨f.name, f.params, normB f.body⟩
def normP (p : Prog) : Prog := p.map normF
theorem normA_wf {a : Atom} (h : WfAtom a) : WfAtom (normA a) := by
  cases a with
  | is d => exact ⟨norm_wf h.1, by rw [norm_parts]; exact h.2⟩
  | of n => exact h
theorem normA_srt {a : Atom} (h : WfAtom a) : SrtA (normA a) := by
  cases a with
  | is d => exact norm_srt h.1
  | of n => exact trivial
theorem normA_text {a : Atom} (h : WfAtom a) : atomT (normA a) = atomT a := by
  cases a with
  | is d => exact show_norm h.1
  | of n => rfl
theorem normA_of {a : Atom} {x : Str} (h : Atom.of x = normA a) : a = .of x := by
  cases a with
  | is d => cases h
  | of n => injection h with e; rw [e]
theorem all_map {α β : Type} {f : α → β} {Pr : β → Prop} {l : List α} (h : ∀ x ∈ l, Pr (f x)) : ∀ y ∈ l.map f, Pr y := fun y hy => by
  obtain ⟨x, hx, rfl⟩ := List.mem_map.mp hy
  exact h x hx
theorem norm_atoms {as : List Atom} (h : ∀ a ∈ as, WfAtom a) : (as.map normA).map atomT = as.map atomT := by
  rw [List.map_map]
  exact List.map_congr_left fun a ha => normA_text (h a ha)
theorem norm_row {ws : List Str} {as : List Atom} (h : ∀ a ∈ as, WfAtom a) : rowT ws (as.map normA) = rowT ws as := by rw [rowT, rowT, norm_atoms h]
theorem normS_wf {s : Step} (h : WfStep s) : WfStep (normS s) := by
  cases s with
  | let_ n op as => exact ⟨h.1, by rw [List.length_map]; exact h.2.1, all_map fun a ha => normA_wf (h.2.2 a ha)⟩
  | call n f as => exact ⟨h.1, h.2.1, by rw [List.length_map]; exact h.2.2.1, all_map fun a ha => normA_wf (h.2.2.2 a ha)⟩
theorem normS_srt {s : Step} (h : WfStep s) : SrtS (normS s) := by
  cases s with
  | let_ n op as => exact all_map (Pr := SrtA) fun a ha => normA_srt (h.2.2 a ha)
  | call n f as => exact all_map (Pr := SrtA) fun a ha => normA_srt (h.2.2.2 a ha)
theorem normS_text {s : Step} (h : WfStep s) : stepT (normS s) = stepT s := by
  cases s with
  | let_ n op as => exact norm_row h.2.2
  | call n f as => exact norm_row h.2.2.2
theorem normS_nm (s : Step) : (normS s).nm = s.nm := by cases s <;> rfl
theorem norm_nms (ss : List Step) : (ss.map normS).map Step.nm = ss.map Step.nm := by
  rw [List.map_map]
  exact List.map_congr_left fun s _ => normS_nm s
theorem normE_wf {e : Leaf} (h : WfLeaf e) : WfLeaf (normE e) := by
  cases e with
  | give a => exact normA_wf h
  | go f as => exact ⟨h.1, by rw [List.length_map]; exact h.2.1, all_map fun a ha => normA_wf (h.2.2 a ha)⟩
  | fail w => exact h
theorem normE_srt {e : Leaf} (h : WfLeaf e) : SrtE (normE e) := by
  cases e with
  | give a => exact normA_srt h
  | go f as => exact all_map (Pr := SrtA) fun a ha => normA_srt (h.2.2 a ha)
  | fail w => exact trivial
theorem normE_text {e : Leaf} (h : WfLeaf e) : leafT (normE e) = leafT e := by
  cases e with
  | give a => exact norm_row (as := [a]) fun x hx => by rw [List.mem_singleton.mp hx]; exact h
  | go f as => exact norm_row h.2.2
  | fail w => rfl
theorem normB_wf : ∀ {b : Block}, WfB b → WfB (normB b)
  | .leaf ss e, h => ⟨all_map fun s hs => normS_wf (h.1 s hs), normE_wf h.2⟩
  | .iff ss a b c, h => ⟨all_map fun s hs => normS_wf (h.1 s hs), normA_wf h.2.1, normB_wf h.2.2.1, normB_wf h.2.2.2⟩
theorem normB_srt : ∀ {b : Block}, WfB b → SrtB (normB b)
  | .leaf ss e, h => ⟨all_map fun s hs => normS_srt (h.1 s hs), normE_srt h.2⟩
  | .iff ss a b c, h => ⟨all_map fun s hs => normS_srt (h.1 s hs), normA_srt h.2.1, normB_srt h.2.2.1, normB_srt h.2.2.2⟩
theorem norm_steps {ss : List Step} (h : ∀ s ∈ ss, WfStep s) : (ss.map normS).map stepT = ss.map stepT := by
  rw [List.map_map]
  exact List.map_congr_left fun s hs => normS_text (h s hs)
theorem normB_rows : ∀ {b : Block}, WfB b → rowsB (normB b) = rowsB b
  | .leaf ss e, h => by rw [normB, rowsB, rowsB, norm_steps h.1, normE_text h.2]
  | .iff ss a b c, h => by
    have e : rowT ["if"] [normA a] = rowT ["if"] [a] := norm_row (as := [a]) fun x hx => by rw [List.mem_singleton.mp hx]; exact h.2.1
    rw [normB, rowsB, rowsB, norm_steps h.1, normB_rows h.2.2.1, normB_rows h.2.2.2, e]
theorem normB_ifs : ∀ b : Block, ifsB (normB b) = ifsB b
  | .leaf ss e => rfl
  | .iff ss a b c => by rw [normB, ifsB, ifsB, normB_ifs b, normB_ifs c]
theorem normB_lines : ∀ b : Block, linesB (normB b) = linesB b
  | .leaf ss e => by rw [normB, linesB, linesB, List.length_map]
  | .iff ss a b c => by rw [normB, linesB, linesB, List.length_map, normB_lines b, normB_lines c]
theorem normB_names : ∀ b : Block, namesB (normB b) = namesB b
  | .leaf ss e => norm_nms ss
  | .iff ss a b c => by rw [normB, namesB, namesB, norm_nms, normB_names b, normB_names c]
theorem normF_wf {f : Fn} (h : WfF f) : WfF (normF f) := ⟨h.1, h.2.1, h.2.2.1, normB_wf h.2.2.2.1, by rw [normF, normB_ifs]; exact h.2.2.2.2.1, by rw [normF, normB_lines]; exact h.2.2.2.2.2⟩
theorem normF_rows {f : Fn} (h : WfF f) : rowsF (normF f) = rowsF f := by
  show headT (normF f) :: rowsB (normB f.body) = headT f :: rowsB f.body
  rw [normB_rows h.2.2.2.1]
  rfl
theorem normP_rows : ∀ {p : Prog}, (∀ f ∈ p, WfF f) → rowsP (normP p) = rowsP p
  | [], _ => rfl
  | f :: r, h => by
    have e1 : rowsP (normP (f :: r)) = rowsF (normF f) ++ rowsP (normP r) := by rw [rowsP, rowsP]; rfl
    have e2 : rowsP (f :: r) = rowsF f ++ rowsP r := by rw [rowsP, rowsP, List.flatMap_cons]
    rw [e1, e2, normF_rows (h f List.mem_cons_self), normP_rows fun g hg => h g (List.mem_cons_of_mem f hg)]
theorem normP_text {p : Prog} (h : WfP p) : textP (normP p) = textP p := by rw [textP, textP, normP_rows h.1]
theorem LineOk.norm {cts : List (Str × Nat)} {S : List Str} {l l' : Line} (h : LineOk cts S l) (e : aimL l' = aimL l) (e2 : atomsL l' = (atomsL l).map normA) : LineOk cts S l' := by
  refine ⟨fun f hf => ?_, fun x hx => ?_⟩
  · rw [e2, List.length_map]
    exact h.1 f (by rw [← e]; exact hf)
  · rw [e2] at hx
    obtain ⟨a, ha, q⟩ := List.mem_map.mp hx
    rw [normA_of q.symm] at ha
    exact h.2 x ha
theorem StepsOk.norm {cts : List (Str × Nat)} : ∀ {ss : List Step} {S Tk : List Str}, StepsOk cts ss S Tk → StepsOk cts (ss.map normS) S Tk
  | [], _, _, _ => trivial
  | s :: r, S, Tk, h => by
    have e := normS_nm s
    refine ⟨h.1.norm (by cases s <;> rfl) (by cases s <;> rfl), by rw [e]; exact h.2.1, ?_⟩
    rw [e]
    exact StepsOk.norm h.2.2
theorem BlockOk.norm {cts : List (Str × Nat)} : ∀ {b : Block} {S Tk : List Str}, BlockOk cts b S Tk → BlockOk cts (normB b) S Tk
  | .leaf ss e, S, Tk, h => by
    refine ⟨h.1.norm, ?_⟩
    rw [norm_nms]
    exact h.2.norm (by cases e <;> rfl) (by cases e <;> rfl)
  | .iff ss a b c, S, Tk, h => by
    rw [normB]
    refine ⟨h.1.norm, ?_, ?_, ?_⟩
    · rw [norm_nms]; exact h.2.1.norm rfl rfl
    · rw [norm_nms]; exact BlockOk.norm h.2.2.1
    · rw [norm_nms, normB_names]; exact BlockOk.norm h.2.2.2
theorem norm_cts (p : Prog) : ctsP (normP p) = ctsP p := by
  rw [ctsP, ctsP, normP, List.map_map]
  rfl
theorem norm_good {p : Prog} (h : GoodP p) : GoodP (normP p) := by
  obtain ⟨⟨w1, w2, w3, w4⟩, s1, s2, s3⟩ := h
  refine ⟨⟨all_map fun f hf => normF_wf (w1 f hf), by rw [normP, List.length_map]; exact w2, by rw [normP_rows w1]; exact w3, fun z => w4 (List.map_eq_nil_iff.mp z)⟩, ?_, by rw [normP, List.length_map]; exact s2, ?_⟩
  · have e : (normP p).map (·.name) = p.map (·.name) := by rw [normP, List.map_map]; rfl
    rw [e]; exact s1
  · rw [norm_cts]
    refine all_map fun f hf => ?_
    obtain ⟨a, b, c, d⟩ := s3 f hf
    exact ⟨by rw [normF, normB_ifs]; exact a, b, by rw [normF, normB_names]; exact c, d.norm⟩
theorem norm_srtP {p : Prog} (h : WfP p) : ∀ f ∈ normP p, SrtB f.body := all_map (f := normF) (Pr := fun f => SrtB f.body) fun f hf => normB_srt (h.1 f hf).2.2.2.1
/-! ### its datum -/
theorem norm_tup (l : List D) : normD (.tup l) = .tup (l.map normD) := by rw [normD, normL_eq]
theorem normA_d (a : Atom) : (normA a).d = normD a.d := by
  cases a with
  | is d => show D.tup [.str "is", normD d] = normD (.tup [.str "is", d]); rw [norm_tup, List.map_cons, List.map_cons, normD]; rfl
  | of n => show D.tup [.str "of", .str n] = normD (.tup [.str "of", .str n]); rw [norm_tup, List.map_cons, List.map_cons, normD, normD]; rfl
theorem norm_atomsD (as : List Atom) : atomsD (as.map normA) = normD (atomsD as) := by
  rw [atomsD, atomsD, norm_tup, List.map_map, List.map_map]
  exact congrArg D.tup (List.map_congr_left fun a _ => normA_d a)
theorem normD_str (x : Str) : normD (.str x) = .str x := by rw [normD]
theorem normS_d (s : Step) : (normS s).d = normD s.d := by
  cases s with
  | let_ n op as => show D.tup [.str "let", .str n, .str op, atomsD (as.map normA)] = normD (.tup [.str "let", .str n, .str op, atomsD as]); rw [norm_tup, norm_atomsD]; simp only [List.map_cons, List.map_nil, normD_str]
  | call n f as => show D.tup [.str "call", .str n, .str f, atomsD (as.map normA)] = normD (.tup [.str "call", .str n, .str f, atomsD as]); rw [norm_tup, norm_atomsD]; simp only [List.map_cons, List.map_nil, normD_str]
theorem norm_stepsD (ss : List Step) : stepsD (ss.map normS) = normD (stepsD ss) := by
  rw [stepsD, stepsD, norm_tup, List.map_map, List.map_map]
  exact congrArg D.tup (List.map_congr_left fun a _ => normS_d a)
theorem normE_d (e : Leaf) : (normE e).d = normD e.d := by
  cases e with
  | give a => show D.tup [.str "give", (normA a).d] = normD (.tup [.str "give", a.d]); rw [norm_tup, normA_d]; simp only [List.map_cons, List.map_nil, normD_str]
  | go f as => show D.tup [.str "go", .str f, atomsD (as.map normA)] = normD (.tup [.str "go", .str f, atomsD as]); rw [norm_tup, norm_atomsD]; simp only [List.map_cons, List.map_nil, normD_str]
  | fail w => show D.tup [.str "fail", .str w] = normD (.tup [.str "fail", .str w]); rw [norm_tup]; simp only [List.map_cons, List.map_nil, normD_str]
theorem normB_d : ∀ b : Block, (normB b).d = normD b.d
  | .leaf ss e => by
    rw [normB]
    show D.tup [stepsD (ss.map normS), (normE e).d] = normD (.tup [stepsD ss, e.d])
    rw [norm_tup, norm_stepsD, normE_d]
    rfl
  | .iff ss a b c => by
    rw [normB]
    show D.tup [stepsD (ss.map normS), .tup [.str "if", (normA a).d, (normB b).d, (normB c).d]] = normD (.tup [stepsD ss, .tup [.str "if", a.d, b.d, c.d]])
    rw [norm_tup, norm_stepsD, normA_d, normB_d b, normB_d c]
    simp only [List.map_cons, List.map_nil, norm_tup, normD_str]
theorem normF_d (f : Fn) : (normF f).d = normD f.d := by
  show D.tup [.str f.name, .tup (f.params.map D.str), (normB f.body).d] = normD (.tup [.str f.name, .tup (f.params.map D.str), f.body.d])
  have e : (f.params.map D.str).map normD = f.params.map D.str := by rw [List.map_map]; exact List.map_congr_left fun x _ => normD_str x
  rw [norm_tup, normB_d]
  simp only [List.map_cons, List.map_nil, normD_str]
  rw [norm_tup, e]
theorem normP_d (p : Prog) : progD (normP p) = normD (progD p) := by
  rw [progD, progD, norm_tup, normP, List.map_map, List.map_map]
  exact congrArg D.tup (List.map_congr_left fun f _ => normF_d f)
end FK
/-! FKN2 -/
set_option maxHeartbeats 400000
namespace FK
open PySem PySem.Spec PyProof.Rows L2
open TL (tl)
/-! ### alike -/
/-- keys differ, no deeper than n, no longer than 1000 -/
def Nd : Nat → D → Prop
  | 0, _ => False
  | _ + 1, .int _ => True
  | _ + 1, .str _ => True
  | n + 1, .tup l => l.length ≤ 1000 ∧ ∀ d ∈ l, Nd n d
  | n + 1, .dct l => l.length ≤ 1000 ∧ (l.map (·.1)).Nodup ∧ ∀ p ∈ l, Nd n p.2
/-- what the law means by alike -/
def Ali : Nat → D → D → Prop
  | 0, _, _ => False
  | _ + 1, .int i, .int j => i = j
  | _ + 1, .str x, .str y => x = y
  | n + 1, .tup l, .tup m => m.length ≤ 1000 ∧ l.length = m.length ∧ ∀ (i : Nat) a b, l[i]? = some a → m[i]? = some b → Ali n a b
  | n + 1, .dct l, .dct m => m.length ≤ 1000 ∧ l.length = m.length ∧ ∀ p ∈ m, ∃ a b, getK l p.1 = some a ∧ getK m p.1 = some b ∧ Ali n a b
  | _ + 1, _, _ => False
theorem Nd.mono : ∀ {n m : Nat} {d : D}, Nd n d → n ≤ m → Nd m d
  | 0, _, _, h, _ => h.elim
  | n + 1, 0, d, _, l => by omega
  | n + 1, m + 1, .int _, _, _ => trivial
  | n + 1, m + 1, .str _, _, _ => trivial
  | n + 1, m + 1, .tup l, h, k => ⟨h.1, fun d hd => Nd.mono (h.2 d hd) (by omega)⟩
  | n + 1, m + 1, .dct l, h, k => ⟨h.1, h.2.1, fun d hd => Nd.mono (h.2.2 d hd) (by omega)⟩
theorem nd_wf : ∀ (n : Nat) {d : D}, WfD d → partsD d ≤ n → n ≤ 1000 → Nd n d
  | 0, d, _, h, _ => by have := partsD_pos d; omega
  | n + 1, .int _, _, _, _ => trivial
  | n + 1, .str _, _, _, _ => trivial
  | n + 1, .tup l, w, h, hn => by
    cases w with
    | tup hw =>
      rw [partsD] at h
      have := partsL_len l
      exact ⟨by omega, fun d hd => nd_wf n (hw d hd) (by have := partsL_mem hd; omega) (by omega)⟩
  | n + 1, .dct l, w, h, hn => by
    cases w with
    | dct hd hk hw =>
      rw [partsD] at h
      have := partsK_len l
      exact ⟨by omega, hd, fun p hp => nd_wf n (hw p hp) (by have := partsK_mem hp; omega) (by omega)⟩
theorem ali_self : ∀ {n : Nat} {d : D}, Nd n d → Ali n d d
  | 0, _, h => h.elim
  | n + 1, .int _, _ => rfl
  | n + 1, .str _, _ => rfl
  | n + 1, .tup l, h => ⟨h.1, rfl, fun i a b ha hb => by
    have e : a = b := Option.some.inj (ha.symm.trans hb)
    rw [e]
    exact ali_self (h.2 b (List.mem_of_getElem? hb))⟩
  | n + 1, .dct l, h => ⟨h.1, rfl, fun p hp => ⟨p.2, p.2, getK_mem h.2.1 hp, getK_mem h.2.1 hp, ali_self (h.2.2 p hp)⟩⟩
theorem getK_map {α β : Type} (f : α → β) : ∀ {l : List (Str × α)} {w : Str} {a : α}, getK l w = some a → getK (l.map fun p => (p.1, f p.2)) w = some (f a)
  | [], _, _, h => by cases h
  | q :: r, w, a, h => by
    rw [List.map_cons, getK_cons]
    rw [getK_cons] at h
    by_cases c : q.1 = w
    · rw [if_pos c] at h ⊢
      rw [← Option.some.inj h]
    · rw [if_neg c] at h
      show (if q.1 = w then _ else _) = _
      rw [if_neg c]
      exact getK_map f h
theorem ali_norm : ∀ {n : Nat} {d : D}, Nd n d → Ali n (normD d) d
  | 0, _, h => h.elim
  | n + 1, .int _, _ => by rw [normD]; exact rfl
  | n + 1, .str _, _ => by rw [normD]; exact rfl
  | n + 1, .tup l, h => by
    rw [norm_tup]
    refine ⟨h.1, List.length_map _, fun i a b ha hb => ?_⟩
    rw [List.getElem?_map, hb] at ha
    rw [← Option.some.inj ha]
    exact ali_norm (h.2 b (List.mem_of_getElem? hb))
  | n + 1, .dct l, h => by
    rw [normD]
    have nk : ((normK l).map (·.1)).Nodup := by rw [norm_keys]; exact h.2.1
    refine ⟨h.1, by rw [sortK_length, normK_eq, List.length_map], fun p hp => ⟨normD p.2, p.2, ?_, getK_mem h.2.1 hp, ali_norm (h.2.2 p hp)⟩⟩
    rw [getK_sort nk, normK_eq]
    exact getK_map normD (getK_mem h.2.1 hp)
theorem nd_atom {a : Atom} (h : WfAtom a) : Nd 61 a.d := by
  cases a with
  | is d => exact ⟨(by decide : 2 ≤ 1000), fun x hx => by
      rcases List.mem_cons.mp hx with e | hx
      · rw [e]; exact trivial
      · rw [List.mem_singleton.mp hx]; exact nd_wf 60 h.1 h.2 (by decide)⟩
  | of n => exact ⟨(by decide : 2 ≤ 1000), fun x hx => by
      rcases List.mem_cons.mp hx with e | hx
      · rw [e]; exact trivial
      · rw [List.mem_singleton.mp hx]; exact trivial⟩
theorem nd_atoms {as : List Atom} (h : ∀ a ∈ as, WfAtom a) (l : as.length ≤ 6) : Nd 62 (atomsD as) := ⟨by rw [List.length_map]; omega, all_map fun a ha => nd_atom (h a ha)⟩
theorem nd_str {n : Nat} {x : Str} : Nd (n + 1) (.str x) := trivial
theorem nd4 {n : Nat} {a b c d : D} (h1 : Nd n a) (h2 : Nd n b) (h3 : Nd n c) (h4 : Nd n d) : Nd (n + 1) (.tup [a, b, c, d]) := ⟨(by decide : 4 ≤ 1000), fun x hx => by
  simp only [List.mem_cons, List.not_mem_nil, or_false] at hx
  rcases hx with rfl | rfl | rfl | rfl <;> assumption⟩
theorem nd3 {n : Nat} {a b c : D} (h1 : Nd n a) (h2 : Nd n b) (h3 : Nd n c) : Nd (n + 1) (.tup [a, b, c]) := ⟨(by decide : 3 ≤ 1000), fun x hx => by
  simp only [List.mem_cons, List.not_mem_nil, or_false] at hx
  rcases hx with rfl | rfl | rfl <;> assumption⟩
theorem nd2 {n : Nat} {a b : D} (h1 : Nd n a) (h2 : Nd n b) : Nd (n + 1) (.tup [a, b]) := ⟨(by decide : 2 ≤ 1000), fun x hx => by
  simp only [List.mem_cons, List.not_mem_nil, or_false] at hx
  rcases hx with rfl | rfl <;> assumption⟩
theorem nd_step {s : Step} (h : WfStep s) : Nd 63 s.d := by
  cases s with
  | let_ n op as => exact nd4 nd_str nd_str nd_str (nd_atoms h.2.2 (by have : as.length ≤ 3 := (op_len _ h.2.1).2; omega))
  | call n f as => exact nd4 nd_str nd_str nd_str (nd_atoms h.2.2.2 h.2.2.1)
theorem nd_steps {ss : List Step} (h : ∀ s ∈ ss, WfStep s) (l : ss.length ≤ 1000) : Nd 64 (stepsD ss) := ⟨by rw [List.length_map]; exact l, all_map fun a ha => nd_step (h a ha)⟩
theorem nd_leaf {e : Leaf} (h : WfLeaf e) : Nd 63 e.d := by
  cases e with
  | give a => exact nd2 nd_str ((nd_atom h).mono (by decide))
  | go f as => exact nd3 nd_str nd_str (nd_atoms h.2.2 h.2.1)
  | fail w => exact nd2 nd_str nd_str
theorem nd_block : ∀ (n : Nat) {b : Block}, WfB b → ifsB b ≤ n → linesB b ≤ 1000 → Nd (65 + 2 * n) b.d
  | n, .leaf ss e, h, i, l => by
    have l' : ss.length + 1 ≤ 1000 := l
    exact (nd2 (nd_steps h.1 (by omega)) ((nd_leaf h.2).mono (by decide)) : Nd 65 _).mono (by omega)
  | 0, .iff ss a b c, h, i, l => by
    have i' : 1 + max (ifsB b) (ifsB c) ≤ 0 := i
    omega
  | n + 1, .iff ss a b c, h, i, l => by
    have i' : 1 + max (ifsB b) (ifsB c) ≤ n + 1 := i
    have l' : ss.length + 1 + linesB b + linesB c ≤ 1000 := l
    have hb := nd_block n h.2.2.1 (by omega) (by omega)
    have hc := nd_block n h.2.2.2 (by omega) (by omega)
    have e : 65 + 2 * (n + 1) = (65 + 2 * n) + 1 + 1 := by omega
    rw [e]
    exact nd2 ((nd_steps h.1 (by omega)).mono (by omega)) (nd4 (nd_str (n := 64 + 2 * n) |>.mono (by omega)) ((nd_atom h.2.1).mono (by omega)) hb hc)
theorem nd_prog {p : Prog} (h : WfP p) : Nd 83 (progD p) := by
  refine ⟨by rw [List.length_map]; have := h.2.1; omega, all_map fun f hf => ?_⟩
  obtain ⟨w1, w2, w3, w4, w5, w6⟩ := h.1 f hf
  have hb := nd_block 8 w4 w5 (by omega)
  exact nd3 nd_str (⟨by rw [List.length_map]; omega, all_map fun x _ => nd_str (n := 79)⟩ : Nd 81 (.tup (f.params.map D.str))) hb
end FK
/-! FKN3 -/
set_option maxHeartbeats 400000
namespace FK
open PySem PySem.Spec PyProof.Rows L2
open TL (tl)
/-! ### what stands, locked or not -/
def thaw (H : Hp) : Hp := fun a => match H a with
  | some (.frz _ u) => some u
  | o => o
theorem thaw_rd {H : Hp} {a : Addr} {u : HO} (h : thaw H a = some u) : Rd H a u := by
  unfold thaw at h
  split at h
  · rename_i o v e
    exact .inr ⟨o, by rw [e, Option.some.inj h]⟩
  · exact .inl h
theorem thaw_frz {H : Hp} {a : Addr} {u : HO} {o : Obj} (h : H a = some (.frz o u)) : thaw H a = some u := by
  unfold thaw
  rw [h]
theorem thaw_tup {H : Hp} {a : Addr} {xs : List V} (h : H a = some (.tup xs)) : thaw H a = some (.tup xs) := by
  unfold thaw
  rw [h]
theorem thaw_dK {H : Hp} {a : Addr} {xs : List (Key × V)} (h : H a = some (.dK xs)) : thaw H a = some (.dK xs) := by
  unfold thaw
  rw [h]
theorem imm_thaw (H : Hp) : Imm H (thaw H) := ⟨fun _ _ h => thaw_tup h, fun _ _ h => thaw_dK h⟩
theorem thaw_imm {H H' : Hp} (f : Fr [] H H') : Imm (thaw H) (thaw H') :=
  ⟨fun b xs h => (thaw_rd h).elim (fun h => thaw_tup (f.at h)) fun ⟨o, h⟩ => thaw_frz (f.at h), fun b xs h => (thaw_rd h).elim (fun h => thaw_dK (f.at h)) fun ⟨o, h⟩ => thaw_frz (f.at h)⟩
theorem thaw_lock {H : Hp} {d : Addr} {ks : List (Key × V)} (o : Obj) (h : H d = some (.dK ks)) : thaw (upd H d (.frz o (.dK ks))) = thaw H := funext fun a => by
  by_cases e : a = d
  · subst e
    rw [thaw_frz (o := o) upd_same, thaw_dK h]
  · unfold thaw
    rw [upd_ne e]
/-! ### what a value stands for -/
theorem rep_one {H : Hp} : ∀ {d e : D} {v : V}, Rep H d v → Rep H e v → d = e := by
  intro d
  induction d using D.ind with
  | int i =>
    intro e v h g
    rw [rep_int] at h
    subst h
    cases e with
    | int j => rw [rep_int] at g; injection g with g; rw [g]
    | str y => rw [rep_str] at g; cases g
    | tup m => obtain ⟨_, _, q, _⟩ := rep_tup.mp g; cases q
    | dct m => obtain ⟨_, _, q, _⟩ := rep_dct.mp g; cases q
  | str x =>
    intro e v h g
    rw [rep_str] at h
    subst h
    cases e with
    | int j => rw [rep_int] at g; cases g
    | str y => rw [rep_str] at g; injection g with g; rw [g]
    | tup m => obtain ⟨_, _, q, _⟩ := rep_tup.mp g; cases q
    | dct m => obtain ⟨_, _, q, _⟩ := rep_dct.mp g; cases q
  | tup l ih =>
    intro e v h g
    obtain ⟨a, xs, rfl, ha, hx⟩ := rep_tup.mp h
    cases e with
    | int j => rw [rep_int] at g; cases g
    | str y => rw [rep_str] at g; cases g
    | tup m =>
      obtain ⟨b, ys, q, hb, hy⟩ := rep_tup.mp g
      injection q with q
      subst q
      rw [ha] at hb
      injection hb with hb
      injection hb with hb
      subst hb
      clear ha h g
      congr 1
      induction l generalizing m xs with
      | nil =>
        rw [repL_nil.mp hx] at hy
        cases m with
        | nil => rfl
        | cons c r => obtain ⟨_, _, z, _⟩ := repL_cons.mp hy; cases z
      | cons c r ih2 =>
        obtain ⟨x, s, rfl, h1, h2⟩ := repL_cons.mp hx
        cases m with
        | nil => have := repL_nil.mp hy; cases this
        | cons c2 r2 =>
          obtain ⟨x2, s2, z, g1, g2⟩ := repL_cons.mp hy
          injection z with z1 z2
          subst z1 z2
          rw [ih c List.mem_cons_self h1 g1, ih2 (fun d hd => ih d (List.mem_cons_of_mem c hd)) _ h2 _ g2]
    | dct m =>
      obtain ⟨b, ys, q, hb, hy⟩ := rep_dct.mp g
      injection q with q
      subst q
      rw [ha] at hb
      cases hb
  | dct l ih =>
    intro e v h g
    obtain ⟨a, xs, rfl, ha, hx⟩ := rep_dct.mp h
    cases e with
    | int j => rw [rep_int] at g; cases g
    | str y => rw [rep_str] at g; cases g
    | dct m =>
      obtain ⟨b, ys, q, hb, hy⟩ := rep_dct.mp g
      injection q with q
      subst q
      rw [ha] at hb
      injection hb with hb
      injection hb with hb
      subst hb
      clear ha h g
      congr 1
      induction l generalizing m xs with
      | nil =>
        rw [repK_nil.mp hx] at hy
        cases m with
        | nil => rfl
        | cons c r => obtain ⟨_, _, z, _⟩ := repK_cons.mp hy; cases z
      | cons c r ih2 =>
        obtain ⟨x, s, rfl, h1, h2⟩ := repK_cons.mp hx
        cases m with
        | nil => have := repK_nil.mp hy; cases this
        | cons c2 r2 =>
          obtain ⟨x2, s2, z, g1, g2⟩ := repK_cons.mp hy
          injection z with z1 z2
          injection z1 with z1 z3
          subst z2 z3
          have e1 : c.1 = c2.1 := Sum.inr.inj z1
          have e2 : c.2 = c2.2 := ih c List.mem_cons_self h1 g1
          have e3 : c = c2 := Prod.ext e1 e2
          rw [e3, ih2 (fun d hd => ih d (List.mem_cons_of_mem c hd)) _ h2 _ g2]
    | tup m =>
      obtain ⟨b, ys, q, hb, hy⟩ := rep_tup.mp g
      injection q with q
      subst q
      rw [ha] at hb
      cases hb
/-- what is smaller than a record does not hold it -/
theorem rep_keep {H : Hp} {d : Addr} {l : List (Str × D)} {ks : List (Key × V)} (hd : H d = some (.dK ks)) (hl : RepK H l ks) (o : HO) : ∀ {e : D} {v : V}, Rep H e v → partsD e < partsD (.dct l) → Rep (upd H d o) e v := by
  intro e
  induction e using D.ind with
  | int i => intro v h _; rw [rep_int] at *; exact h
  | str x => intro v h _; rw [rep_str] at *; exact h
  | tup m ih =>
    intro v h hp
    obtain ⟨a, xs, rfl, ha, hx⟩ := rep_tup.mp h
    have ne : a ≠ d := fun z => by rw [z, hd] at ha; cases ha
    refine rep_tup.mpr ⟨a, xs, rfl, by rw [upd_ne ne]; exact ha, ?_⟩
    rw [partsD] at hp
    have go : ∀ (m' : List D), (∀ c ∈ m', c ∈ m) → ∀ xs', RepL H m' xs' → RepL (upd H d o) m' xs' := by
      intro m'
      induction m' with
      | nil => intro _ xs' q; rw [repL_nil] at *; exact q
      | cons c r ih2 =>
        intro hm xs' q
        obtain ⟨x, s, rfl, h1, h2⟩ := repL_cons.mp q
        have hc := hm c List.mem_cons_self
        exact repL_cons.mpr ⟨x, s, rfl, ih c hc h1 (by have := partsL_mem hc; omega), ih2 (fun y hy => hm y (List.mem_cons_of_mem c hy)) s h2⟩
    exact go m (fun _ h => h) xs hx
  | dct m ih =>
    intro v h hp
    obtain ⟨a, xs, rfl, ha, hx⟩ := rep_dct.mp h
    have ne : a ≠ d := fun z => by
      rw [z, hd] at ha
      injection ha with ha
      injection ha with ha
      subst ha
      have e : D.dct m = D.dct l := rep_one h (rep_dct.mpr ⟨d, ks, by rw [z], hd, hl⟩)
      rw [e] at hp
      omega
    refine rep_dct.mpr ⟨a, xs, rfl, by rw [upd_ne ne]; exact ha, ?_⟩
    rw [partsD] at hp
    have go : ∀ (m' : List (Str × D)), (∀ c ∈ m', c ∈ m) → ∀ xs', RepK H m' xs' → RepK (upd H d o) m' xs' := by
      intro m'
      induction m' with
      | nil => intro _ xs' q; rw [repK_nil] at *; exact q
      | cons c r ih2 =>
        intro hm xs' q
        obtain ⟨x, s, rfl, h1, h2⟩ := repK_cons.mp q
        have hc := hm c List.mem_cons_self
        exact repK_cons.mpr ⟨x, s, rfl, ih c hc h1 (by have := partsK_mem hc; omega), ih2 (fun y hy => hm y (List.mem_cons_of_mem c hy)) s h2⟩
    exact go m (fun _ h => h) xs hx
theorem rd_sqT {K : PySem.W.Frag} {H : Hp} {a : Addr} {xs : List V} (h : Rd H a (.tup xs)) : SqT K H a xs := .inl h
theorem ty_tup {K : PySem.W.Frag} {H : Hp} {a : Addr} {xs : List V} (h : Rd H a (.tup xs)) : TyX K H (.ref a) (.type "tuple") := h.elim (fun h => .base (.tup h)) fun ⟨o, h⟩ => .fTuple h
theorem ty_dK {K : PySem.W.Frag} {H : Hp} {a : Addr} {ks : List (Key × V)} (h : Rd H a (.dK ks)) : TyX K H (.ref a) (.type "dict") := h.elim (fun h => .base (.dK h)) fun ⟨o, h⟩ => .fDict h
theorem rd_fr {H H' : Hp} {a : Addr} {u : HO} (h : Rd H a u) (f : Fr [] H H') : Rd H' a u := h.elim (fun h => .inl (f.at h)) fun ⟨o, h⟩ => .inr ⟨o, f.at h⟩
theorem dget_rd {H : Hp} {a : Addr} {kvs : List (Key × V)} {k : Key} (e : Rd H a (.dK kvs)) : DGet H a (kV k) (valV kvs k) := .inl ⟨kvs, k, e, rfl, rfl⟩
def rLenO (K : PySem.W.Frag) : List V → Hp → VK → Prop := fun xs H Q => ∃ (a : Addr) (n : Nat), xs = [V.ref a] ∧ ((∃ ys, SqT K H a ys ∧ n = ys.length) ∨ ∃ kvs, Rd H a (.dK kvs) ∧ n = kvs.length) ∧ Q (.int (n : Nat)) H
theorem call_lenO {X : Cx} : CallR X (.builtin "len") (rLenO X.K) := by
  intro pins s σ H xs us Q I r h
  obtain ⟨a, n, rfl, hq, q⟩ := h
  rcases hq with ⟨ys, hs, rfl⟩ | ⟨kvs, hd, rfl⟩
  · exact call_len_seq pins s σ H _ us Q I r ⟨a, ys, rfl, .inr hs, q⟩
  · obtain ⟨u, rfl, ru⟩ := vals1 r
    cases ru
    exact d_len I hd fun t s' I' => ⟨.int kvs.length, H, I', ⟨t, rfl⟩, q⟩
theorem pg_tupK {X : Cx} {K : PySem.W.Frag} {es : List Expr} {k : Nat} {t : TGs} {n : Nat} {pos : Pos} (hk : X.K = K) (hc : X.calm = true) (h : PGs X es t)
    (hn : (assignEach es X.env).length = n := by rfl) (hst : (assignEach es X.env).findIdx? (·.1) = none := by rfl) : PG X (.Tuple es k pos) (gTup K n t) := by
  subst hk
  exact pg_tup hc h hn hst
theorem walk_zipT {K : PySem.W.Frag} {a b : Addr} {xs ys : List V} (hn : xs.length = ys.length) : Walk (RZ.ItzT K a b) ys.length (fun H => SqT K H a xs ∧ SqT K H b ys) (YPair (fun i => xs[i]?) (fun i => ys[i]?)) := by
  refine ⟨fun i _ hi q => ?_, fun _ q => ⟨xs, ys, q.1, q.2, by omega⟩, fun i H v H' _ q y => ?_⟩
  · have h1 : i < xs.length := by omega
    exact ⟨xs, ys, xs[i], ys[i], q.1, q.2, by simp [h1], by simp [hi]⟩
  · obtain ⟨T, x, z, h1, h2, h3, h4, h5⟩ := y
    exact ⟨T, x, z, h1, h2, h3, h4 xs q.1, h5 ys q.2⟩
end FK
/-! FKN4 -/
set_option maxHeartbeats 400000
namespace FK
open PySem PySem.Spec PyProof.Rows L2
open TL (tl)
/-! ### alike, walked -/
def spAlike (n : Nat) : Sp := fun vs H Q _ => ∃ (v1 v2 : V) (d1 d2 : D), vs = [v1, v2] ∧ Rep (thaw H) d1 v1 ∧ Rep H d2 v2 ∧ Ali n d1 d2 ∧ ∀ H', Fr [] H H' → Q (.bl true) H'
theorem all_true (n : Nat) : (List.replicate n true).all id = true := by
  rw [List.all_eq_true]
  intro x hx
  exact (List.mem_replicate.mp hx).2
theorem bls_snoc (i : Nat) : (List.replicate (i + 1) true).map V.bl = (List.replicate i true).map V.bl ++ [V.bl true] := by
  rw [List.replicate_succ', List.map_append]
  rfl
theorem repK_at {H : Hp} : ∀ {l : List (Str × D)} {ks : List (Key × V)} {i : Nat} {k : Key} {v : V}, RepK H l ks → ks[i]? = some (k, v) → ∃ p, l[i]? = some p ∧ k = Sum.inr p.1 ∧ Rep H p.2 v
  | [], ks, i, k, v, h, e => by rw [repK_nil.mp h] at e; simp at e
  | c :: r, ks, 0, k, v, h, e => by
    obtain ⟨y, s, rfl, h1, h2⟩ := repK_cons.mp h
    simp at e
    obtain ⟨e1, e2⟩ := e
    exact ⟨c, rfl, e1.symm, by rw [← e2]; exact h1⟩
  | c :: r, ks, i + 1, k, v, h, e => by
    obtain ⟨y, s, rfl, h1, h2⟩ := repK_cons.mp h
    obtain ⟨p, a, b⟩ := repK_at (i := i) h2 (by simpa using e)
    exact ⟨p, by simpa using a, b⟩
section
variable {P : Program} {w : World} {K : PySem.W.Frag} {mg : Str → Option Value} {base : Heap}
theorem sc_g_alike : FnScope ["_law_found", "_law_due", "_law_word_here", "_law_one", "_law_other"] ["_law_found", "_law_due"] (defScope s_g_alike) := C8.fnScope_by (by decide +kernel)
theorem ok_alike_step (T : TX K mg) {n : Nat} (c__law_alike : C8.Cal P w K mg base n "_law_alike" (spAlike n) []) : C8.Cal P w K mg base (n + 1) "_law_alike" (spAlike (n + 1)) [] := by
  refine cal_of T.f_g_alike T.g__law_alike sc_g_alike (fun _ _ _ _ _ _ us hl => match us, hl with | [_, _], _ => rfl) (fun vs H Q E h => ?_) (fun cdv A outer s H vs Q E hr h => ?_)
  · obtain ⟨v1, v2, d1, d2, rfl, _⟩ := h
    rfl
  obtain ⟨v1, v2, d1, d2, rfl, r1, r2, al, k⟩ := h
  have hu := hu_of hr
  refine ⟨_, (pss_cons (ps_if (pt_val (pe_callB L2.call_isi (by rfl) T.z_isinstance (by decide +kernel) (pa_cons (pv 1) (pa_cons (pe_bltn (v := .ty "int") (by rfl) T.z_int (by decide +kernel) rfl) pa_nil)))) (pss_one (ps_ret (pe_and (pe_callB L2.call_isi (by rfl) T.z_isinstance (by decide +kernel) (pa_cons (pv 0) (pa_cons (pe_bltn (v := .ty "int") (by rfl) T.z_int (by decide +kernel) rfl) pa_nil))) (pe_and (pe_not (pe_callB L2.call_isi (by rfl) T.z_isinstance (by decide +kernel) (pa_cons (pv 0) (pa_cons (pe_bltn (v := .ty "bool") (by rfl) T.z_bool (by decide +kernel) rfl) pa_nil)))) (pe_one (pe_cmpR op_eq (pv 0) (pv 1) (nomark _))))))) pss_nil)
      (pss_cons (ps_if (pt_val (pe_callB L2.call_isi (by rfl) T.z_isinstance (by decide +kernel) (pa_cons (pv 1) (pa_cons (pe_bltn (v := .ty "str") (by rfl) T.z_str (by decide +kernel) rfl) pa_nil)))) (pss_one (ps_ret (pe_and (pe_callB L2.call_isi (by rfl) T.z_isinstance (by decide +kernel) (pa_cons (pv 0) (pa_cons (pe_bltn (v := .ty "str") (by rfl) T.z_str (by decide +kernel) rfl) pa_nil))) (pe_one (pe_cmpR op_eq (pv 0) (pv 1) (nomark _)))))) pss_nil)
      (pss_cons (ps_if (pt_val (pe_callB L2.call_isi (by rfl) T.z_isinstance (by decide +kernel) (pa_cons (pv 1) (pa_cons (pe_bltn (v := .ty "tuple") (by rfl) T.z_tuple (by decide +kernel) rfl) pa_nil)))) (pss_cons (ps_if (PW.pt (pw_or (pt_not (pt_val (pe_callB L2.call_isi (by rfl) T.z_isinstance (by decide +kernel) (pa_cons (pv 0) (pa_cons (pe_bltn (v := .ty "tuple") (by rfl) T.z_tuple (by decide +kernel) rfl) pa_nil))))) (pw_or1 (pt_cmpR op_ne (pe_callB call_lenO (by rfl) T.z_len (by decide +kernel) (pa_cons (pv 0) pa_nil)) (pe_callB call_lenO (by rfl) T.z_len (by decide +kernel) (pa_cons (pv 1) pa_nil)) (nomark _))))) (pss_one (ps_ret pe_bl)) pss_nil)
      (pss_one (ps_ret (pe_callB (cr_all rfl) (by rfl) T.z_all (by decide +kernel) (pa_cons (pe_lc (own := [("_law_one", 3), ("_law_other", 4)]) (by rfl) sc_g_alike.nd (RZ.pi_zipA (by rfl) T.z_zip (pa_cons (pv 0) (pa_cons (pv 1) pa_nil))) (blkOk_by (own := [("_law_one", 3), ("_law_other", 4)]) (N := ["_law_found", "_law_due", "_law_word_here", "_law_one", "_law_other"]) (sc := defScope s_g_alike) (by decide +kernel)) (fun _ _ _ _ _ => (pg_tupK (K := K) (n := 2) rfl rfl (pgs_cons (pg_name (i := 3) sc_g_alike.nd rfl (by first | exact Or.inl rfl | exact Or.inr rfl)) (pgs_cons (pg_name (i := 4) sc_g_alike.nd rfl (by first | exact Or.inl rfl | exact Or.inr rfl)) pgs_nil)))) (fun _ _ _ _ _ => pts_nil) (fun _ _ _ _ _ => (C8.pe_c c__law_alike hr (by omega) (by rfl) (pa_cons (pv 3) (pa_cons (pv 4) pa_nil))))) pa_nil))))) pss_nil)
      (pss_cons (ps_if (PW.pt (pw_or (pt_not (pt_val (pe_callB L2.call_isi (by rfl) T.z_isinstance (by decide +kernel) (pa_cons (pv 0) (pa_cons (pe_bltn (v := .ty "dict") (by rfl) T.z_dict (by decide +kernel) rfl) pa_nil))))) (pw_or1 (pt_cmpR op_ne (pe_callB call_lenO (by rfl) T.z_len (by decide +kernel) (pa_cons (pv 0) pa_nil)) (pe_callB call_lenO (by rfl) T.z_len (by decide +kernel) (pa_cons (pv 1) pa_nil)) (nomark _))))) (pss_one (ps_ret pe_bl)) pss_nil)
      (pss_one (ps_ret (pe_callB (cr_all rfl) (by rfl) T.z_all (by decide +kernel) (pa_cons (pe_lock (pe_lc (own := [("_law_word_here", 2)]) (by rfl) sc_g_alike.nd (pi_keys (pv 1)) (blkOk_by (own := [("_law_word_here", 2)]) (N := ["_law_found", "_law_due", "_law_word_here", "_law_one", "_law_other"]) (sc := defScope s_g_alike) (by decide +kernel)) (fun _ _ _ _ _ => (pg_name (i := 2) sc_g_alike.nd rfl (by first | exact Or.inl rfl | exact Or.inr rfl))) (fun _ _ _ _ _ => pts_nil) (fun _ _ _ _ _ => (pe_and (pe_cmp (pc_din hu (pv 2) (pv 0)) rfl) (pe_one (C8.pe_c c__law_alike hr (by omega) (by rfl) (pa_cons (pe_dget hu (pv 0) (pv 2) (fun _ _ => rfl)) (pa_cons (pe_dget hu (pv 1) (pv 2) (fun _ _ => rfl)) pa_nil)))))))) pa_nil)))))))), ?_⟩
  cases d2 with
  | int j =>
    cases d1 with
    | int i =>
      have e : i = j := al
      subst e
      rw [rep_int] at r1 r2
      subst r1 r2
      refine ⟨_, rfl, _, _, _, _, _, rfl, .ty _, .base (.int _), kit_ty kitB_ii.1, _, rfl, ?_⟩
      refine ⟨_, rfl, _, _, _, _, _, rfl, .ty _, .base (.int _), kit_ty kitB_ii.1, _, rfl, ?_⟩
      refine ⟨_, rfl, _, _, _, _, _, rfl, .ty _, .base (.int _), kit_ty kitB_ii.2.2.2.2, _, rfl, _, rfl, ?_⟩
      refine ⟨_, rfl, _, rfl, rfl, ?_⟩
      rw [decide_eq_true (show V.int i = V.int i from rfl)]
      exact k H (Fr.refl _ _)
    | str _ => exact al.elim
    | tup _ => exact al.elim
    | dct _ => exact al.elim
  | str y =>
    cases d1 with
    | str x =>
      have e : x = y := al
      subst e
      rw [rep_str] at r1 r2
      subst r1 r2
      refine ⟨_, rfl, _, _, _, _, _, rfl, .ty _, .base (.str _), kit_ty kitB_s.1, _, rfl, ?_⟩
      refine ⟨_, rfl, _, _, _, _, _, rfl, .ty _, .base (.str _), kit_ty kitB_s.2.1, _, rfl, ?_⟩
      refine ⟨_, rfl, _, _, _, _, _, rfl, .ty _, .base (.str _), kit_ty kitB_s.2.1, _, rfl, ?_⟩
      refine ⟨_, rfl, _, rfl, rfl, ?_⟩
      rw [decide_eq_true (show V.str x = V.str x from rfl)]
      exact k H (Fr.refl _ _)
    | int _ => exact al.elim
    | tup _ => exact al.elim
    | dct _ => exact al.elim
  | tup m =>
    cases d1 with
    | tup l =>
      obtain ⟨m1000, ll, al⟩ := al
      obtain ⟨a, xs, rfl, ha, hx⟩ := rep_tup.mp r1
      obtain ⟨b, ys, rfl, hb, hy⟩ := rep_tup.mp r2
      have ra := thaw_rd ha
      have xl : xs.length = ys.length := by rw [hx.length, hy.length, ll]
      refine ⟨_, rfl, _, _, _, _, _, rfl, .ty _, .base (.tup hb), kit_ty kitB_t.1, _, rfl, ?_⟩
      refine ⟨_, rfl, _, _, _, _, _, rfl, .ty _, .base (.tup hb), kit_ty kitB_t.2.1, _, rfl, ?_⟩
      refine ⟨_, rfl, _, _, _, _, _, rfl, .ty _, .base (.tup hb), kit_ty kitB_t.2.2.1, _, rfl, ?_⟩
      refine ⟨_, rfl, _, _, _, _, _, rfl, .ty _, ty_tup ra, kit_ty kitB_t.2.2.1, _, rfl, ?_⟩
      refine ⟨_, rfl, a, _, rfl, .inl ⟨xs, rd_sqT ra, rfl⟩, _, rfl, b, _, rfl, .inl ⟨ys, sqT_of hb, rfl⟩, rfl, _, rfl, ifNI (fun z => absurd (by rw [xl]) z) fun _ => ?_⟩
      refine ⟨_, rfl, _, rfl, a, b, xs, ys, rfl, .inr ⟨rd_sqT ra, sqT_of hb, fun C hC => ?_⟩⟩
      have yl : ys.length ≤ 1000 := by rw [hy.length]; exact m1000
      refine lc_it (walk_zipT xl) (fun i H1 => Fr [] H H1 ∧ H1 C = some (.lst ((List.replicate i true).map V.bl))) ⟨Fr.new hC, upd_same⟩ (fun i H1 _ ⟨g1, _⟩ => ⟨rd_sqT (rd_fr ra g1), sqT_of (g1.at hb)⟩) (fun i x H1 H2 hi ⟨g1, g2⟩ y => ?_) (fun H1 ⟨g1, g2⟩ => ?_)
      · obtain ⟨Tt, p, q, rfl, hT, rfl, e1, e2⟩ := y
        obtain ⟨dp, hdp, rp⟩ := hx.at e1
        obtain ⟨dq, hdq, rq⟩ := hy.at e2
        have f1 : Fr [] H (upd H1 Tt (.tup [p, q])) := g1.trans (Fr.new hT)
        have g2' := (Fr.new (S := []) (o := .tup [p, q]) hT).at g2
        refine ⟨Tt, [p, q], rfl, sqT_of upd_same, rfl, p, _, rfl, q, _, rfl, rfl, rfl, ?_⟩
        refine ⟨_, rfl, _, rfl, p, q, dp, dq, rfl, rp.mono (thaw_imm f1), rq.mono f1.imm0, al i dp dq hdp hdq, fun H3 f3 => ?_⟩
        refine ⟨_, f3.at g2', ?_, (f1.trans f3).put_new hC, ?_⟩
        · rw [List.length_map, List.length_replicate]
          exact sl_lt (by omega)
        · rw [upd_same, bls_snoc]
      · refine ⟨C, List.replicate ys.length true, rfl, SqL.of g2, ?_⟩
        rw [all_true]
        exact k H1 g1
    | int _ => exact al.elim
    | str _ => exact al.elim
    | dct _ => exact al.elim
  | dct m =>
    cases d1 with
    | dct l =>
      obtain ⟨m1000, ll, al⟩ := al
      obtain ⟨a, xs, rfl, ha, hx⟩ := rep_dct.mp r1
      obtain ⟨b, ys, rfl, hb, hy⟩ := rep_dct.mp r2
      have ra := thaw_rd ha
      refine ⟨_, rfl, _, _, _, _, _, rfl, .ty _, .base (.dK hb), kit_ty kitB_d.1, _, rfl, ?_⟩
      refine ⟨_, rfl, _, _, _, _, _, rfl, .ty _, .base (.dK hb), kit_ty kitB_d.2.1, _, rfl, ?_⟩
      refine ⟨_, rfl, _, _, _, _, _, rfl, .ty _, .base (.dK hb), kit_ty kitB_d.2.2.1, _, rfl, ?_⟩
      refine ⟨_, rfl, _, _, _, _, _, rfl, .ty _, ty_dK ra, kit_ty kitB_d.2.2.2, _, rfl, ?_⟩
      have xl : xs.length = ys.length := by rw [repK_length hx, repK_length hy, ll]
      refine ⟨_, rfl, a, _, rfl, .inr ⟨xs, ra, rfl⟩, _, rfl, b, _, rfl, .inr ⟨ys, .inl hb, rfl⟩, rfl, _, rfl, ifNI (fun z => absurd (by rw [xl]) z) fun _ => ?_⟩
      refine ⟨b, .dK ys, hb, trivial, fun od => ⟨_, rfl, b, od, rfl, .inl ⟨ys, upd_same, fun C hC => ?_⟩⟩⟩
      have yl : ys.length ≤ 1000 := by rw [repK_length hy]; exact m1000
      have hL : upd H b (.frz od (.dK ys)) b = some (.frz od (.dK ys)) := upd_same
      have nCb : C ≠ b := (ne_of_none hL hC).symm
      have eth : thaw (upd H b (.frz od (.dK ys))) = thaw H := thaw_lock od hb
      have raL : Rd (upd H b (.frz od (.dK ys))) a (.dK xs) := thaw_rd (by rw [eth]; exact ha)
      have keep : ∀ {e : D} {v : V}, Rep H e v → partsD e < partsD (.dct m) → Rep (upd H b (.frz od (.dK ys))) e v := rep_keep hb hy _
      have outL : ∀ H1, Fr [] (upd H b (.frz od (.dK ys))) H1 → Fr [] H (upd H1 b (.dK ys)) := fun H1 g1 c o hc _ => by
        by_cases z : c = b
        · rw [z] at hc ⊢
          rw [upd_same, ← hc, hb]
        · rw [upd_ne z]
          exact g1 c o (by rw [upd_ne z]; exact hc) List.not_mem_nil
      generalize upd H b (.frz od (.dK ys)) = HL at *
      refine lc_it walk_keys (fun i H1 => Fr [] HL H1 ∧ H1 C = some (.lst ((List.replicate i true).map V.bl))) ⟨Fr.new hC, upd_same⟩ (fun i H1 _ ⟨g1, _⟩ => g1.at hL) (fun i x H1 H2 hi ⟨g1, g2⟩ y => ?_) (fun H1 ⟨g1, g2⟩ => ?_)
      · obtain ⟨rfl, kk, vv, e1, rfl⟩ := y
        obtain ⟨p, hp, rfl, _⟩ := repK_at hy e1
        obtain ⟨da, db, ga, gb, ali⟩ := al p (List.mem_of_getElem? hp)
        obtain ⟨x', hx1, hx2⟩ := repK_get hx ga
        obtain ⟨y', hy1, hy2⟩ := repK_get hy gb
        have lt : partsD db < partsD (.dct m) := by
          have := partsK_mem (getK_some gb)
          rw [partsD]
          show partsD db < 1 + partsK m
          have e : partsD (p.1, db).2 = partsD db := rfl
          omega
        have ra1 := rd_fr raL g1
        have rb1 : Rd H2 b (.dK ys) := .inr ⟨od, g1.at hL⟩
        refine ⟨rfl, _, rfl, _, rfl, a, _, rfl, dget_rd (k := Sum.inr p.1) ra1, _, rfl, ?_⟩
        rw [hx1]
        refine ⟨_, rfl, _, rfl, a, x', rfl, by rw [← hx1]; exact dget_rd (k := Sum.inr p.1) ra1, _, rfl, _, rfl, b, y', rfl, by rw [← hy1]; exact dget_rd (k := Sum.inr p.1) rb1, x', y', da, db, rfl, ?_, (keep hy2 lt).mono g1.imm0, ali, fun H3 f3 => ?_⟩
        · rw [← eth] at hx2
          exact hx2.mono (thaw_imm g1)
        refine ⟨_, f3.at g2, ?_, (g1.trans f3).put_new hC, ?_⟩
        · rw [List.length_map, List.length_replicate]
          exact sl_lt (by omega)
        · rw [upd_same, bls_snoc]
      · refine ⟨g1.at hL, C, List.replicate ys.length true, rfl, SqL.of (by rw [upd_ne nCb]; exact g2), ?_⟩
        rw [all_true]
        exact k _ (outL H1 g1)
    | int _ => exact al.elim
    | str _ => exact al.elim
    | tup _ => exact al.elim
theorem ok_alike (T : TX K mg) : ∀ n, C8.Cal P w K mg base n "_law_alike" (spAlike n) []
  | 0 => cal_none (ps := ["_law_found", "_law_due"]) T.f_g_alike T.g__law_alike (fun _ _ _ _ _ _ us hl => match us, hl with | [_, _], _ => rfl) fun vs H Q E ⟨_, _, _, _, _, _, _, h, _⟩ => h
  | n + 1 => ok_alike_step T (ok_alike T n)
end
end FK
/-! FKN5 -/
set_option maxHeartbeats 400000
namespace FK
open PySem PySem.Spec PyProof.Rows L2
open TL (tl)
/-! ### the law, walked -/
def spLaw (K : PySem.W.Frag) : Sp := fun vs H Q _ => ∃ (a : Addr) (ns : List Int), vs = [.ref a] ∧ SqL K H a (ns.map V.int) ∧ ns.length ≤ 63 ∧ ∀ H', Fr [] H H' → Q (.bl true) H'
section
variable {P : Program} {w : World} {K : PySem.W.Frag} {mg : Str → Option Value} {base : Heap}
theorem sc_law : FnScope ["_law_script", "_law_deck_here", "_law_program_here", "_law_kept", "_law_other", "_law_text_here", "_law_more"] ["_law_script"] (defScope s_law) := C8.fnScope_by (by decide +kernel)
theorem ok_law (T : TX K mg) {fd : FuncData} (F : FunD K "law" "law" (defArgs s_law) (defBody s_law) (defScope s_law) [] [] (He.ga K "law") fd) : FnOk P w K mg base C8.CX0 157 (He.ga K "law") fd ["_law_script"] (spLaw K) := by
  have c__law_deck : C8.Cal P w K mg base 1 "_law_deck" (spDeck K) [] := ok_deck T
  have c__law_any_program : C8.Cal P w K mg base 13 "_law_any_program" (spProg gAny) [] := ok_any_program T
  have c__law_program : C8.Cal P w K mg base 12 "_law_program" (spProg gProgram) [] := ok_program T
  have c__law_rows : C8.Cal P w K mg base 72 "_law_rows" spRowsP [] := ok_law_rows T
  have c__law_alike : C8.Cal P w K mg base 83 "_law_alike" (spAlike 83) [] := ok_alike T 83
  have c_show : C8.Cal P w K mg base 72 "show" spShowP [] := ok_show T
  have c_read : C8.Cal P w K mg base 156 "read" spRead [] := ok_read T
  refine fnok F sc_law (fun vs H Q E h => ?_) (fun cdv A outer s H vs Q E hr h => ?_)
  · obtain ⟨a, ns, rfl, _⟩ := h
    rfl
  obtain ⟨a, ns, rfl, ha, h63, k⟩ := h
  refine ⟨_, (pss_cons (ps_set (i := 1) sc_law.nd rfl (by first | exact Or.inl rfl | exact Or.inr rfl) (C8.pe_c c__law_deck hr (by omega) (by rfl) (pa_cons (pv 0) pa_nil)))
      (pss_cons (ps_set (i := 2) sc_law.nd rfl (by first | exact Or.inl rfl | exact Or.inr rfl) (C8.pe_c c__law_any_program hr (by omega) (by rfl) (pa_cons (pe_callTy call_list_of (by rfl) T.z_list (by decide +kernel) (pa_cons (pv 1) pa_nil)) pa_nil)))
      (pss_cons (ps_set (i := 3) sc_law.nd rfl (by first | exact Or.inl rfl | exact Or.inr rfl) (C8.pe_c c__law_any_program hr (by omega) (by rfl) (pa_cons (pe_callTy call_list_of (by rfl) T.z_list (by decide +kernel) (pa_cons (pv 1) pa_nil)) pa_nil)))
      (pss_cons (ps_set (i := 4) sc_law.nd rfl (by first | exact Or.inl rfl | exact Or.inr rfl) (C8.pe_c c__law_program hr (by omega) (by rfl) (pa_cons (pe_revL (pv 1)) pa_nil)))
      (pss_cons (ps_set (i := 5) sc_law.nd rfl (by first | exact Or.inl rfl | exact Or.inr rfl) (pe_join pe_str (C8.pe_c c__law_rows hr (by omega) (by rfl) (pa_cons (pv 3) pa_nil))))
      (pss_cons (ps_set (i := 6) sc_law.nd rfl (by first | exact Or.inl rfl | exact Or.inr rfl) (pe_join pe_str (C8.pe_c c__law_rows hr (by omega) (by rfl) (pa_cons (pv 4) pa_nil))))
      (pss_cons (ps_if (PW.pt (pw_or (pt_not (pt_val (C8.pe_c c__law_alike hr (by omega) (by rfl) (pa_cons (C8.pe_c c_show hr (by omega) (by rfl) (pa_cons (pv 2) pa_nil)) (pa_cons (pv 5) pa_nil))))) (pw_or1 (pt_not (pt_val (C8.pe_c c__law_alike hr (by omega) (by rfl) (pa_cons (C8.pe_c c_show hr (by omega) (by rfl) (pa_cons (pv 4) pa_nil)) (pa_cons (pv 6) pa_nil)))))))) (pss_one (ps_ret pe_bl)) pss_nil)
      (pss_cons (ps_if (PW.pt (pw_or (pt_not (pt_val (C8.pe_c c__law_alike hr (by omega) (by rfl) (pa_cons (C8.pe_c c_read hr (by omega) (by rfl) (pa_cons (pv 5) pa_nil)) (pa_cons (pv 3) pa_nil))))) (pw_or1 (pt_not (pt_val (C8.pe_c c__law_alike hr (by omega) (by rfl) (pa_cons (C8.pe_c c_read hr (by omega) (by rfl) (pa_cons (pv 6) pa_nil)) (pa_cons (pv 4) pa_nil)))))))) (pss_one (ps_ret pe_bl)) pss_nil)
      (pss_one (ps_ret (pe_and (C8.pe_c c__law_alike hr (by omega) (by rfl) (pa_cons (C8.pe_c c_read hr (by omega) (by rfl) (pa_cons (pv 5) pa_nil)) (pa_cons (pv 3) pa_nil))) (pe_and (C8.pe_c c__law_alike hr (by omega) (by rfl) (pa_cons (C8.pe_c c_show hr (by omega) (by rfl) (pa_cons (pv 2) pa_nil)) (pa_cons (pv 5) pa_nil))) (pe_one (C8.pe_c c__law_alike hr (by omega) (by rfl) (pa_cons (pv 2) (pa_cons (pv 3) pa_nil)))))))))))))))), ?_⟩
  refine ⟨_, rfl, a, ns, rfl, ha, h63, fun H1 dk l f1 h1 => ?_⟩
  refine ⟨_, rfl, dk, _, rfl, .inl (SqL.of h1), fun q1 hq1 => ⟨q1, l, rfl, upd_same, fun H2 v1 f2 _ rv1 => ?_⟩⟩
  have nd1 : dk ≠ q1 := ne_of_none h1 hq1
  have h2 : LI H2 dk l := f2.at (LI.new h1 hq1) (by simp; exact nd1)
  have f02 : Fr [] H H2 := (f1.trans (Fr.new hq1)).forget f2 fun b m => by rw [List.mem_singleton.mp m]; exact .inr (f1.le (fun b m => by cases m) q1 hq1)
  obtain ⟨gp, gs⟩ := any_good l
  clear f2 h1 hq1 f1
  refine ⟨_, rfl, dk, _, rfl, .inl (SqL.of h2), fun q2 hq2 => ⟨q2, l, rfl, upd_same, fun H3 v2 f3 _ rv2 => ?_⟩⟩
  have nd2 : dk ≠ q2 := ne_of_none h2 hq2
  have h3 : LI H3 dk l := f3.at (LI.new h2 hq2) (by simp; exact nd2)
  have f23 : Fr [] H2 H3 := (Fr.new hq2).forget f3 fun b m => by rw [List.mem_singleton.mp m]; exact .inr hq2
  generalize (gAny l).1 = p at *
  obtain ⟨op, os⟩ := program_good l.reverse
  refine ⟨_, rfl, dk, _, rfl, SqL.of h3, fun q3 hq3 => ⟨q3, l.reverse, rfl, (by show upd H3 q3 _ q3 = _; rw [upd_same, List.map_reverse]), fun H4 v3 f4 _ rv3 => ?_⟩⟩
  have f34 : Fr [] H3 H4 := (Fr.new hq3).forget f4 fun b m => by rw [List.mem_singleton.mp m]; exact .inr hq3
  generalize (gProgram l.reverse).1 = o at *
  have r1 := rv1.mono (f23.trans f34).imm0
  have r2 := rv2.mono f34.imm0
  have f04 := f02.trans (f23.trans f34)
  clear f02 f23 f34 h2 h3 hq2 hq3 f3 f4 rv1 rv2
  have wp : WfP p := gp
  have wo : WfP o := op
  have np := norm_good ⟨gp, gs⟩
  have no := norm_good ⟨op, os⟩
  have ap : Ali 83 (progD (normP p)) (progD p) := by rw [normP_d]; exact ali_norm (nd_prog wp)
  have ao : Ali 83 (progD (normP o)) (progD o) := by rw [normP_d]; exact ali_norm (nd_prog wo)
  have sp : Ali 83 (progD p) (progD p) := ali_self (nd_prog wp)
  refine ⟨⟨_, rfl⟩, _, rfl, v2, p, rfl, r2, wp, fun H5 r f5 hr5 => ⟨_, r, rowsP p, rfl, rfl, .inl (SqL.of hr5), Nat.le_trans (text_sum wp) (by decide), ?_⟩⟩
  refine ⟨⟨_, rfl⟩, _, rfl, v3, o, rfl, rv3.mono f5.imm0, wo, fun H6 r' f6 hr6 => ⟨_, r', rowsP o, rfl, rfl, .inl (SqL.of hr6), Nat.le_trans (text_sum wo) (by decide), ?_⟩⟩
  have f46 := f5.trans f6
  replace r1 := r1.mono f46.imm0
  replace r2 := r2.mono f46.imm0
  have r3 := rv3.mono f46.imm0
  replace f04 := f04.trans f46
  clear f46 f5 f6 hr5 hr6 rv3
  refine ⟨_, rfl, v1, p, rfl, r1, wp, fun H7 f7 => ⟨_, rfl, .str (textP p), .str (textP p), .str (textP p), .str (textP p), rfl, rep_str.mpr rfl, rep_str.mpr rfl, rfl, fun H8 f8 => ⟨_, rfl, iteF ?_⟩⟩⟩
  have f68 := f7.trans f8
  refine ⟨_, rfl, v3, o, rfl, r3.mono f68.imm0, wo, fun H9 f9 => ⟨_, rfl, .str (textP o), .str (textP o), .str (textP o), .str (textP o), rfl, rep_str.mpr rfl, rep_str.mpr rfl, rfl, fun H10 f10 => ⟨_, rfl, iteF ?_⟩⟩⟩
  have f6a := f68.trans (f9.trans f10)
  have tp : V.str (textP p) = V.str (textP (normP p)) := by rw [normP_text wp]
  have to : V.str (textP o) = V.str (textP (normP o)) := by rw [normP_text wo]
  refine ⟨_, rfl, normP p, congrArg (fun x => [x]) tp, np.1, norm_srtP wp, np.2, fun H11 u1 f11 ru1 => ⟨_, rfl, u1, v2, progD (normP p), progD p, rfl, ru1.mono (imm_thaw _), r2.mono (f6a.trans f11).imm0, ap, fun H12 f12 => ⟨_, rfl, iteF ?_⟩⟩⟩
  have f6c := f6a.trans (f11.trans f12)
  refine ⟨_, rfl, normP o, congrArg (fun x => [x]) to, no.1, norm_srtP wo, no.2, fun H13 u2 f13 ru2 => ⟨_, rfl, u2, v3, progD (normP o), progD o, rfl, ru2.mono (imm_thaw _), r3.mono (f6c.trans f13).imm0, ao, fun H14 f14 => ⟨_, rfl, iteF ?_⟩⟩⟩
  have f6e := f6c.trans (f13.trans f14)
  refine ⟨_, rfl, normP p, congrArg (fun x => [x]) tp, np.1, norm_srtP wp, np.2, fun H15 u3 f15 ru3 => ⟨_, rfl, u3, v2, progD (normP p), progD p, rfl, ru3.mono (imm_thaw _), r2.mono (f6e.trans f15).imm0, ap, fun H16 f16 => ⟨_, rfl, ?_⟩⟩⟩
  have f6g := f6e.trans (f15.trans f16)
  refine ⟨_, rfl, v1, p, rfl, r1.mono f6g.imm0, wp, fun H17 f17 => ⟨_, rfl, .str (textP p), .str (textP p), .str (textP p), .str (textP p), rfl, rep_str.mpr rfl, rep_str.mpr rfl, rfl, fun H18 f18 => ⟨_, rfl, ?_⟩⟩⟩
  have f6i := f6g.trans (f17.trans f18)
  exact ⟨_, rfl, _, rfl, v1, v2, progD p, progD p, rfl, (r1.mono f6i.imm0).mono (imm_thaw _), r2.mono f6i.imm0, sp, fun H19 f19 => k H19 (f04.trans (f6i.trans f19))⟩
end
end FK
/-! FKZ -/
set_option maxHeartbeats 0
namespace FK
open PySem PySem.Spec PyProof.Rows L2
theorem law_facts {P : Program} {w : World} {K : PySem.W.Frag} {h : Heap} {mg : Str → Option Value} {f : Addr} (X : K.In h) (G : h.Ns mainGlobals mg) (hfa : mg ("law" : Str) = some (.ref f)) (c : obsM K = valM) :
    ∃ fd : FuncData, (∀ (s : Shared) (v : Value), BindsTo s fd ⟨[v], []⟩ [("_law_script", v)]) ∧ ∀ base : Heap, K.In base → base.Ns mainGlobals mg → FnOk P w K mg base C8.CX0 157 f fd ["_law_script"] (spLaw K) := by
  have T : TX K mg := ⟨c, h, X, G⟩
  obtain ⟨fd, F⟩ := T.f_law
  have e := hfa.symm.trans T.g_law
  cases e
  have b := FunD.bindsA (ps := ["_law_script"]) F fun _ _ _ _ _ _ us hl => match us, hl with | [_], _ => rfl
  exact ⟨fd, fun s v => b s [v] rfl, fun base _ _ => ok_law T F⟩
end FK
open PySem PySem.W PySem.Calls PyProof.Rows
theorem PySem.Challenge.cw_foreknown_k23_whole_programs_both_ways_holds : PySem.Challenge.rw_foreknown_k23_whole_programs_both_ways.Holds := by
  w_on; o_law
  refine HandSHeadRun.head_any (r := OpenLaw.row PySem.Challenge.rw_foreknown_k23_whole_programs_both_ways) (q := FK.qv) (H := FK.hookM) (ob := FK.obM) (M := 12000) (loose := FK.loose) (d := HandSHeadRun.topDef (OpenLaw.row PySem.Challenge.rw_foreknown_k23_whole_programs_both_ways).prog 104) (kwd := []) FK.obM_eq
    (by kernel_rfl) (fun s => by kernel_rfl) FK.run (by kernel_rfl) (by kernel_rfl) (by kernel_rfl) (by rfl) (by first | assumption | decide +kernel) (by decide +kernel) ⟨rfl, rfl, rfl, rfl, rfl, by decide +kernel⟩ ?hw ?hc
  case hw => w_witness2
  case hc =>
    refine L2.walk_ofE (l := PySem.Challenge.rw_foreknown_k23_whole_programs_both_ways) (n := 63) (k := 157) (x := "_law_script") (CX := C8.CX0) rfl (by decide) (by kernel_rfl) ⟨rfl, by decide, by decide⟩ ?F (fun _ _ _ _ z => z)
    intro w mg fa h Y G hmg0
    obtain ⟨K, KX, c⟩ := Y
    have hmg : mg ("law" : PySem.Str) = some (.ref fa) := by
      have e : (HandSHeadRun.topDef (OpenLaw.row PySem.Challenge.rw_foreknown_k23_whole_programs_both_ways).prog 104).name = ("law" : PySem.Str) := by kernel_rfl
      rw [← e]
      exact hmg0
    obtain ⟨fd, hb, hF⟩ := FK.law_facts (P := (PySem.Challenge.rw_foreknown_k23_whole_programs_both_ways).prog) (w := w) KX G hmg c
    exact ⟨K, fd, FK.spLaw K, KX, hb, fun H a ns hl _ hS => ⟨a, ns, rfl, hS, hl, fun _ _ => rfl⟩, hF⟩
