import PyProof.Rows.All
import Wide.All
import OpenK.AllK
import Wide.FinOn
import KE.KStateDown
import HandS.ForMost
import HandS.Defaults
import HandS.HeadEnd
import HandS.HeadHook1
import HandS.HeadHook2
import HandS.HeadHook3
import HandS.Head0
import HandS.Head1
import HandS.Head2
import HandS.Codes
import HandS.Property
import HandS.IsInst
import HandS.Walk
import HandS.Conv
import HandS.Style
import HandS.TupAny
import HandS.Zip
import HandS.IntHex
import HandS.TryOnly
import HandS.StrMore
import HandS.Sort
import HandS.SortRule
import HandS.SortInts
import HandS.WideBits
import HandS.OwnEq
import HandS.More
import HandS.Flow
import KE.GoesMore
import KE.GoesEnum
import HandS.DictComp
import PySem.Challenge.RW_orderlycore_k21_whole_texts_assembled
/-! ## K21Text -/
set_option Elab.async false
set_option linter.all false
set_option maxRecDepth 100000
set_option maxHeartbeats 0
/-! the text by places -/
namespace K21
open PySem PySem.Spec PyProof.Rows L2
def topS (i : Nat) : Stmt := PySem.Challenge.pw_orderlycore_k21_whole_texts_assembled.main.body.getD i (.Pass ⟨0, 0, 0, 0⟩)
abbrev s_is_integer : Stmt := topS 7
abbrev s_is_count : Stmt := topS 8
abbrev s_is_list : Stmt := topS 9
abbrev s_want_text : Stmt := topS 19
abbrev s_is_register_word : Stmt := topS 20
abbrev s_register_in : Stmt := topS 21
abbrev s_is_name_text : Stmt := topS 22
abbrev s_is_digits : Stmt := topS 23
abbrev s_number_text : Stmt := topS 24
abbrev s_quoted_end : Stmt := topS 25
abbrev s_plain_end : Stmt := topS 26
abbrev s_line_words : Stmt := topS 27
abbrev s_line_parts : Stmt := topS 28
abbrev s_is_word : Stmt := topS 32
abbrev s_is_image_part : Stmt := topS 34
abbrev s_cells_of_parts : Stmt := topS 35
abbrev s_are_apart : Stmt := topS 36
abbrev s_are_image_parts : Stmt := topS 37
abbrev s_parts_of_cells : Stmt := topS 38
abbrev s_form_by_name : Stmt := topS 46
abbrev s_number_by_name : Stmt := topS 47
abbrev s_is_instruction_value : Stmt := topS 48
abbrev s_want_instruction : Stmt := topS 49
abbrev s_instruction_as_word : Stmt := topS 50
abbrev s_operations : Stmt := topS 51
abbrev s_is_instruction : Stmt := topS 52
abbrev s_encoded : Stmt := topS 53
abbrev s_value_in : Stmt := topS 62
abbrev s_values_in : Stmt := topS 63
abbrev s_worth_in : Stmt := topS 64
abbrev s_bounded_number : Stmt := topS 65
abbrev s_shaped_signs : Stmt := topS 66
abbrev s_shaped_data : Stmt := topS 67
abbrev s_shaped_instruction : Stmt := topS 68
abbrev s_shaped_set : Stmt := topS 69
abbrev s_shaped : Stmt := topS 70
abbrev s_word_worth : Stmt := topS 72
abbrev s_told_word : Stmt := topS 73
abbrev s_told_words : Stmt := topS 74
abbrev s_gone_through : Stmt := topS 75
abbrev s_want_right : Stmt := topS 76
abbrev s_laid_text : Stmt := topS 77
abbrev s_first_bad : Stmt := topS 78
abbrev s_assembled : Stmt := topS 79
abbrev s_names_of : Stmt := topS 80
abbrev s_law_pot : Stmt := topS 82
abbrev s_law_draw : Stmt := topS 83
abbrev s_law_pick : Stmt := topS 84
abbrev s_law_names : Stmt := topS 85
abbrev s_law_instruction : Stmt := topS 86
abbrev s_law_word : Stmt := topS 87
abbrev s_law_said : Stmt := topS 88
abbrev s_law_items : Stmt := topS 89
abbrev s_law_told : Stmt := topS 90
abbrev s_law_number : Stmt := topS 91
abbrev s_law_value : Stmt := topS 92
abbrev s_law_line : Stmt := topS 93
abbrev s_law_deed : Stmt := topS 94
abbrev s_law_spread : Stmt := topS 95
abbrev s_law_program : Stmt := topS 96
abbrev s_law_parts : Stmt := topS 97
abbrev s_law_plainer : Stmt := topS 98
abbrev s_law_right : Stmt := topS 99
abbrev s_law : Stmt := topS 100
abbrev s_Image_init : Stmt := inClass (topS 39) 0
abbrev s_Image_parts : Stmt := inClass (topS 39) 1
abbrev s_Image_word : Stmt := inClass (topS 39) 2
abbrev s_Image_size : Stmt := inClass (topS 39) 3
abbrev s_Image_eq : Stmt := inClass (topS 39) 4
abbrev s_Layout_init : Stmt := inClass (topS 71) 0
abbrev s_Layout_tell : Stmt := inClass (topS 71) 1
abbrev s_Layout_lay : Stmt := inClass (topS 71) 2
abbrev s_Layout_take : Stmt := inClass (topS 71) 3
end K21
/-! ## K21Head -/
set_option Elab.async false
set_option linter.all false
set_option maxRecDepth 100000
set_option maxHeartbeats 0
namespace K21
open PySem PySem.Spec PyProof.Rows L2
/-! the head: facts by names -/
/-- a def anywhere -/
def fnWA (K : PySem.W.Frag) (a : Addr) : He.FnW := match K.lookup a with
  | some ⟨_, _, .func fd, _⟩ => some (fd.name, fd.qualname, fd.params, fd.body, fd.scope, fd.globals, fd.closure, fd.builtins)
  | _ => none
def okA (K : PySem.W.Frag) (a : Addr) (q : Str) : Bool := PySem.W.keepIn K (.ref a) && (match K.lookup a with
  | some ⟨_, _, .func fd, _⟩ => PySem.W.codeIn K fd.code q && (He.dflB K fd.defaults [] && He.kwdB K fd.kwdefaults [])
  | _ => false)
def tupAt (K : PySem.W.Frag) (a : Addr) (vs : List V) : Bool := match K.lookup a with
  | some ⟨.type c, _, .seq its _, _⟩ => decide (c = "tuple") && (decide (its.size ≤ sizeLine) && He.relAll vs its.toList)
  | _ => false
/-- the value of a table of the top under a key -/
def tabAt (K : PySem.W.Frag) (x key : Str) : Addr := match PySem.W.nsIn K (He.ga K x) key with
  | some (some (.ref a)) => a
  | _ => 0
def tabTup (K : PySem.W.Frag) (x key : Str) (vs : List V) : Bool := He.eqO (PySem.W.nsIn K (He.ga K x) key) (some (some (.ref (tabAt K x key)))) && tupAt K (tabAt K x key) vs
def propAd (K : PySem.W.Frag) : Addr := He.ma K (He.ga K "Image") "size"
def getAd (K : PySem.W.Frag) : Addr := match PySem.W.recIn K (propAd K) "property" with
  | some (.ref g :: _) => g
  | _ => 0

def formsKV : List (Str × He.Dv) := [("add", .str "three"), ("sub", .str "three"), ("mul", .str "three"), ("div", .str "three"), ("and", .str "three"), ("or", .str "three"), ("xor", .str "three"), ("shl", .str "three"), ("shr", .str "three"), ("low", .str "three"), ("eq", .str "three"), ("addi", .str "near"), ("ld", .str "near"), ("st", .str "near"), ("jr", .str "near"), ("lim", .str "byte"), ("lhi", .str "byte"), ("bz", .str "far"), ("bnz", .str "far"), ("jal", .str "far"), ("sys", .str "call"), ("rdc", .str "control"), ("wrc", .str "control"), ("ret", .str "bare"), ("halt", .str "bare"), ("nop", .str "bare")]
def shapesKV : List (Str × List V) := [("three", [.int 3, .int 0, .int 0, .int 0]), ("near", [.int 2, .int 5, .int (-16), .int 15]), ("byte", [.int 1, .int 8, .int 0, .int 255]), ("far", [.int 1, .int 8, .int (-128), .int 127]), ("call", [.int 0, .int 8, .int 0, .int 255]), ("control", [.int 1, .int 8, .int 0, .int 7]), ("bare", [.int 0, .int 0, .int 0, .int 0])]
def fshapesKV : List (Str × List V) := [("three", [.int 3, .int 0]), ("near", [.int 2, .int 1]), ("byte", [.int 1, .int 1]), ("far", [.int 1, .int 1]), ("call", [.int 0, .int 1]), ("control", [.int 1, .int 1]), ("bare", [.int 0, .int 0])]
def exL (K : PySem.W.Frag) : List Bool :=
  [He.valsB K (He.ga K "FORMS") formsKV, (shapesKV.all fun q => tabTup K "SHAPES" q.1 q.2), (fshapesKV.all fun q => tabTup K "FORM_SHAPES" q.1 q.2),
  He.tupB K "PLACES" [.int 8, .int 5, .int 0], He.tupB K "BRANCHES" [.str "bz", .str "bnz", .str "jal"],
  He.eqO (PySem.W.findIn K (.ref (He.ga K "Image")) "__class__") (some (some (.builtin "object.__class__"))),
  He.eqO (PySem.W.specialIn K (.builtin "object.__class__") "__get__") (some (some (.builtin "getset_descriptor.__get__"))),
  decide (PySem.W.takesIn K (.builtin "object.__class__") = some true), decide (PySem.W.mroIn K (He.ga K "Image") (.type "object") = some true),
  decide (PySem.W.kitOne K (.ref (He.ga K "Image")) (.ref (He.ga K "Image")) = some true),
  He.eqO (PySem.W.findIn K (.ref (He.ga K "Image")) "size") (some (some (.ref (propAd K)))),
  He.eqO (PySem.W.specialIn K (.ref (propAd K)) "__get__") (some (some (.builtin "property.__get__"))),
  decide (PySem.W.takesIn K (.ref (propAd K)) = some true),
  (match PySem.W.recIn K (propAd K) "property" with
    | some (.ref g :: _) => decide (g = getAd K)
    | _ => false), okA K (getAd K) "Image.size"]
def ex (K : PySem.W.Frag) : Bool := (exL K).all id
def fa0 : List He.Fa := [.glo "is_integer", .glo "is_count", .glo "is_list", .glo "want_text", .glo "is_register_word", .glo "register_in", .glo "is_name_text", .glo "is_digits", .glo "number_text", .glo "quoted_end", .glo "plain_end", .glo "line_words", .glo "line_parts", .glo "is_word", .glo "is_image_part", .glo "cells_of_parts", .glo "are_apart", .glo "are_image_parts", .glo "parts_of_cells", .glo "form_by_name", .glo "number_by_name", .glo "is_instruction_value", .glo "want_instruction", .glo "instruction_as_word", .glo "operations", .glo "is_instruction", .glo "encoded", .glo "value_in", .glo "values_in", .glo "worth_in"]
def fa1 : List He.Fa := [.glo "bounded_number", .glo "shaped_signs", .glo "shaped_data", .glo "shaped_instruction", .glo "shaped_set", .glo "shaped", .glo "word_worth", .glo "told_word", .glo "told_words", .glo "gone_through", .glo "want_right", .glo "laid_text", .glo "first_bad", .glo "assembled", .glo "names_of", .glo "_law_pot", .glo "_law_draw", .glo "_law_pick", .glo "_law_names", .glo "_law_instruction", .glo "_law_word", .glo "_law_said", .glo "_law_items", .glo "_law_told", .glo "_law_number", .glo "_law_value", .glo "_law_line", .glo "_law_deed", .glo "_law_spread", .glo "_law_program"]
def fa2 : List He.Fa := [.glo "_law_parts", .glo "_law_plainer", .glo "_law_right", .glo "law", .glo "Image", .glo "Layout", .glo "FORMS", .glo "SHAPES", .glo "FORM_SHAPES", .glo "PLACES", .glo "BRANCHES", .free "isinstance", .free "int", .free "bool", .free "str", .free "list", .free "tuple", .free "len", .free "all", .free "any", .free "sorted", .free "enumerate", .free "zip", .free "range", .free "ord", .free "sum", .free "max", .free "abs", .free "divmod", .int "MOST_NAME" 12]
def fa3 : List He.Fa := [.int "MOST_DECIMAL" 6, .int "MOST_SIXTEENS" 4, .int "MOST_WORD" 65536, .int "MEMORY_END" 960, .int "OPERATION_BIT" 11, .int "MOST_REGISTER" 7, .int "MOST_SPACE" 400, .int "MOST_VALUES" 40, .int "MOST_SIGNS" 80, .int "LEAST_WORTH" (-32768), .int "END_WORTH" 65536, .str "SMALL_LETTERS" "abcdefghijklmnopqrstuvwxyz", .str "DECIMAL" "0123456789", .str "SIXTEENS" "0123456789abcdef", .str "NAME_SIGNS" "abcdefghijklmnopqrstuvwxyz0123456789_", .str "QUOTE" "\"", .cls "Image", .mkr "Image", .cls "Layout", .mkr "Layout", .noat "Image" "own_parts", .noat "Layout" "own_place", .noat "Layout" "own_names", .noat "Layout" "own_taken", .noat "Layout" "own_rows", .meth "Image" "parts", .meth "Image" "word", .meth "Image" "__eq__", .meth "Layout" "tell", .meth "Layout" "lay"]
def fa4 : List He.Fa := [.meth "Layout" "take"]
def fa : List He.Fa := fa0 ++ (fa1 ++ (fa2 ++ (fa3 ++ (fa4))))
def d_is_integer : He.DefD := ⟨("is_integer", none), "is_integer", "is_integer", defArgs s_is_integer, defBody s_is_integer, defScope s_is_integer, [], []⟩
def d_is_count : He.DefD := ⟨("is_count", none), "is_count", "is_count", defArgs s_is_count, defBody s_is_count, defScope s_is_count, [], []⟩
def d_is_list : He.DefD := ⟨("is_list", none), "is_list", "is_list", defArgs s_is_list, defBody s_is_list, defScope s_is_list, [], []⟩
def d_want_text : He.DefD := ⟨("want_text", none), "want_text", "want_text", defArgs s_want_text, defBody s_want_text, defScope s_want_text, [], []⟩
def d_is_register_word : He.DefD := ⟨("is_register_word", none), "is_register_word", "is_register_word", defArgs s_is_register_word, defBody s_is_register_word, defScope s_is_register_word, [], []⟩
def d_register_in : He.DefD := ⟨("register_in", none), "register_in", "register_in", defArgs s_register_in, defBody s_register_in, defScope s_register_in, [], []⟩
def d_is_name_text : He.DefD := ⟨("is_name_text", none), "is_name_text", "is_name_text", defArgs s_is_name_text, defBody s_is_name_text, defScope s_is_name_text, [], []⟩
def d_is_digits : He.DefD := ⟨("is_digits", none), "is_digits", "is_digits", defArgs s_is_digits, defBody s_is_digits, defScope s_is_digits, [], []⟩
def d_number_text : He.DefD := ⟨("number_text", none), "number_text", "number_text", defArgs s_number_text, defBody s_number_text, defScope s_number_text, [], []⟩
def d_quoted_end : He.DefD := ⟨("quoted_end", none), "quoted_end", "quoted_end", defArgs s_quoted_end, defBody s_quoted_end, defScope s_quoted_end, [], []⟩
def d_plain_end : He.DefD := ⟨("plain_end", none), "plain_end", "plain_end", defArgs s_plain_end, defBody s_plain_end, defScope s_plain_end, [], []⟩
def d_line_words : He.DefD := ⟨("line_words", none), "line_words", "line_words", defArgs s_line_words, defBody s_line_words, defScope s_line_words, [], []⟩
def d_line_parts : He.DefD := ⟨("line_parts", none), "line_parts", "line_parts", defArgs s_line_parts, defBody s_line_parts, defScope s_line_parts, [], []⟩
def d_is_word : He.DefD := ⟨("is_word", none), "is_word", "is_word", defArgs s_is_word, defBody s_is_word, defScope s_is_word, [], []⟩
def d_is_image_part : He.DefD := ⟨("is_image_part", none), "is_image_part", "is_image_part", defArgs s_is_image_part, defBody s_is_image_part, defScope s_is_image_part, [], []⟩
def d_cells_of_parts : He.DefD := ⟨("cells_of_parts", none), "cells_of_parts", "cells_of_parts", defArgs s_cells_of_parts, defBody s_cells_of_parts, defScope s_cells_of_parts, [], []⟩
def d_are_apart : He.DefD := ⟨("are_apart", none), "are_apart", "are_apart", defArgs s_are_apart, defBody s_are_apart, defScope s_are_apart, [], []⟩
def d_are_image_parts : He.DefD := ⟨("are_image_parts", none), "are_image_parts", "are_image_parts", defArgs s_are_image_parts, defBody s_are_image_parts, defScope s_are_image_parts, [], []⟩
def d_parts_of_cells : He.DefD := ⟨("parts_of_cells", none), "parts_of_cells", "parts_of_cells", defArgs s_parts_of_cells, defBody s_parts_of_cells, defScope s_parts_of_cells, [], []⟩
def d_form_by_name : He.DefD := ⟨("form_by_name", none), "form_by_name", "form_by_name", defArgs s_form_by_name, defBody s_form_by_name, defScope s_form_by_name, [], []⟩
def d_number_by_name : He.DefD := ⟨("number_by_name", none), "number_by_name", "number_by_name", defArgs s_number_by_name, defBody s_number_by_name, defScope s_number_by_name, [], []⟩
def d_is_instruction_value : He.DefD := ⟨("is_instruction_value", none), "is_instruction_value", "is_instruction_value", defArgs s_is_instruction_value, defBody s_is_instruction_value, defScope s_is_instruction_value, [], []⟩
def d_want_instruction : He.DefD := ⟨("want_instruction", none), "want_instruction", "want_instruction", defArgs s_want_instruction, defBody s_want_instruction, defScope s_want_instruction, [], []⟩
def d_instruction_as_word : He.DefD := ⟨("instruction_as_word", none), "instruction_as_word", "instruction_as_word", defArgs s_instruction_as_word, defBody s_instruction_as_word, defScope s_instruction_as_word, [], []⟩
def d_operations : He.DefD := ⟨("operations", none), "operations", "operations", defArgs s_operations, defBody s_operations, defScope s_operations, [], []⟩
def d_is_instruction : He.DefD := ⟨("is_instruction", none), "is_instruction", "is_instruction", defArgs s_is_instruction, defBody s_is_instruction, defScope s_is_instruction, [], []⟩
def d_encoded : He.DefD := ⟨("encoded", none), "encoded", "encoded", defArgs s_encoded, defBody s_encoded, defScope s_encoded, [], []⟩
def d_value_in : He.DefD := ⟨("value_in", none), "value_in", "value_in", defArgs s_value_in, defBody s_value_in, defScope s_value_in, [], []⟩
def d_values_in : He.DefD := ⟨("values_in", none), "values_in", "values_in", defArgs s_values_in, defBody s_values_in, defScope s_values_in, [], []⟩
def d_worth_in : He.DefD := ⟨("worth_in", none), "worth_in", "worth_in", defArgs s_worth_in, defBody s_worth_in, defScope s_worth_in, [], []⟩
def d_bounded_number : He.DefD := ⟨("bounded_number", none), "bounded_number", "bounded_number", defArgs s_bounded_number, defBody s_bounded_number, defScope s_bounded_number, [], []⟩
def d_shaped_signs : He.DefD := ⟨("shaped_signs", none), "shaped_signs", "shaped_signs", defArgs s_shaped_signs, defBody s_shaped_signs, defScope s_shaped_signs, [], []⟩
def d_shaped_data : He.DefD := ⟨("shaped_data", none), "shaped_data", "shaped_data", defArgs s_shaped_data, defBody s_shaped_data, defScope s_shaped_data, [], []⟩
def d_shaped_instruction : He.DefD := ⟨("shaped_instruction", none), "shaped_instruction", "shaped_instruction", defArgs s_shaped_instruction, defBody s_shaped_instruction, defScope s_shaped_instruction, [], []⟩
def d_shaped_set : He.DefD := ⟨("shaped_set", none), "shaped_set", "shaped_set", defArgs s_shaped_set, defBody s_shaped_set, defScope s_shaped_set, [], []⟩
def d_shaped : He.DefD := ⟨("shaped", none), "shaped", "shaped", defArgs s_shaped, defBody s_shaped, defScope s_shaped, [], []⟩
def d_word_worth : He.DefD := ⟨("word_worth", none), "word_worth", "word_worth", defArgs s_word_worth, defBody s_word_worth, defScope s_word_worth, [], []⟩
def d_told_word : He.DefD := ⟨("told_word", none), "told_word", "told_word", defArgs s_told_word, defBody s_told_word, defScope s_told_word, [], []⟩
def d_told_words : He.DefD := ⟨("told_words", none), "told_words", "told_words", defArgs s_told_words, defBody s_told_words, defScope s_told_words, [], []⟩
def d_gone_through : He.DefD := ⟨("gone_through", none), "gone_through", "gone_through", defArgs s_gone_through, defBody s_gone_through, defScope s_gone_through, [], []⟩
def d_want_right : He.DefD := ⟨("want_right", none), "want_right", "want_right", defArgs s_want_right, defBody s_want_right, defScope s_want_right, [], []⟩
def d_laid_text : He.DefD := ⟨("laid_text", none), "laid_text", "laid_text", defArgs s_laid_text, defBody s_laid_text, defScope s_laid_text, [], []⟩
def d_first_bad : He.DefD := ⟨("first_bad", none), "first_bad", "first_bad", defArgs s_first_bad, defBody s_first_bad, defScope s_first_bad, [], []⟩
def d_assembled : He.DefD := ⟨("assembled", none), "assembled", "assembled", defArgs s_assembled, defBody s_assembled, defScope s_assembled, [], []⟩
def d_names_of : He.DefD := ⟨("names_of", none), "names_of", "names_of", defArgs s_names_of, defBody s_names_of, defScope s_names_of, [], []⟩
def d_law_pot : He.DefD := ⟨("_law_pot", none), "_law_pot", "_law_pot", defArgs s_law_pot, defBody s_law_pot, defScope s_law_pot, [], []⟩
def d_law_draw : He.DefD := ⟨("_law_draw", none), "_law_draw", "_law_draw", defArgs s_law_draw, defBody s_law_draw, defScope s_law_draw, [], []⟩
def d_law_pick : He.DefD := ⟨("_law_pick", none), "_law_pick", "_law_pick", defArgs s_law_pick, defBody s_law_pick, defScope s_law_pick, [], []⟩
def d_law_names : He.DefD := ⟨("_law_names", none), "_law_names", "_law_names", defArgs s_law_names, defBody s_law_names, defScope s_law_names, [], []⟩
def d_law_instruction : He.DefD := ⟨("_law_instruction", none), "_law_instruction", "_law_instruction", defArgs s_law_instruction, defBody s_law_instruction, defScope s_law_instruction, [], []⟩
def d_law_word : He.DefD := ⟨("_law_word", none), "_law_word", "_law_word", defArgs s_law_word, defBody s_law_word, defScope s_law_word, [], []⟩
def d_law_said : He.DefD := ⟨("_law_said", none), "_law_said", "_law_said", defArgs s_law_said, defBody s_law_said, defScope s_law_said, [], []⟩
def d_law_items : He.DefD := ⟨("_law_items", none), "_law_items", "_law_items", defArgs s_law_items, defBody s_law_items, defScope s_law_items, [], []⟩
def d_law_told : He.DefD := ⟨("_law_told", none), "_law_told", "_law_told", defArgs s_law_told, defBody s_law_told, defScope s_law_told, [], []⟩
def d_law_number : He.DefD := ⟨("_law_number", none), "_law_number", "_law_number", defArgs s_law_number, defBody s_law_number, defScope s_law_number, [], []⟩
def d_law_value : He.DefD := ⟨("_law_value", none), "_law_value", "_law_value", defArgs s_law_value, defBody s_law_value, defScope s_law_value, [], []⟩
def d_law_line : He.DefD := ⟨("_law_line", none), "_law_line", "_law_line", defArgs s_law_line, defBody s_law_line, defScope s_law_line, [], []⟩
def d_law_deed : He.DefD := ⟨("_law_deed", none), "_law_deed", "_law_deed", defArgs s_law_deed, defBody s_law_deed, defScope s_law_deed, [], []⟩
def d_law_spread : He.DefD := ⟨("_law_spread", none), "_law_spread", "_law_spread", defArgs s_law_spread, defBody s_law_spread, defScope s_law_spread, [], []⟩
def d_law_program : He.DefD := ⟨("_law_program", none), "_law_program", "_law_program", defArgs s_law_program, defBody s_law_program, defScope s_law_program, [], []⟩
def d_law_parts : He.DefD := ⟨("_law_parts", none), "_law_parts", "_law_parts", defArgs s_law_parts, defBody s_law_parts, defScope s_law_parts, [], []⟩
def d_law_plainer : He.DefD := ⟨("_law_plainer", none), "_law_plainer", "_law_plainer", defArgs s_law_plainer, defBody s_law_plainer, defScope s_law_plainer, [], []⟩
def d_law_right : He.DefD := ⟨("_law_right", none), "_law_right", "_law_right", defArgs s_law_right, defBody s_law_right, defScope s_law_right, [], []⟩
def d_law : He.DefD := ⟨("law", none), "law", "law", defArgs s_law, defBody s_law, defScope s_law, [], []⟩
def d_Image_init : He.DefD := ⟨("Image", some "__init__"), "__init__", "Image.__init__", defArgs s_Image_init, defBody s_Image_init, defScope s_Image_init, [], []⟩
def d_Image_parts : He.DefD := ⟨("Image", some "parts"), "parts", "Image.parts", defArgs s_Image_parts, defBody s_Image_parts, defScope s_Image_parts, [], []⟩
def d_Image_word : He.DefD := ⟨("Image", some "word"), "word", "Image.word", defArgs s_Image_word, defBody s_Image_word, defScope s_Image_word, [], []⟩
def d_Image_eq : He.DefD := ⟨("Image", some "__eq__"), "__eq__", "Image.__eq__", defArgs s_Image_eq, defBody s_Image_eq, defScope s_Image_eq, [], []⟩
def d_Layout_init : He.DefD := ⟨("Layout", some "__init__"), "__init__", "Layout.__init__", defArgs s_Layout_init, defBody s_Layout_init, defScope s_Layout_init, [], []⟩
def d_Layout_tell : He.DefD := ⟨("Layout", some "tell"), "tell", "Layout.tell", defArgs s_Layout_tell, defBody s_Layout_tell, defScope s_Layout_tell, [], []⟩
def d_Layout_lay : He.DefD := ⟨("Layout", some "lay"), "lay", "Layout.lay", defArgs s_Layout_lay, defBody s_Layout_lay, defScope s_Layout_lay, [], []⟩
def d_Layout_take : He.DefD := ⟨("Layout", some "take"), "take", "Layout.take", defArgs s_Layout_take, defBody s_Layout_take, defScope s_Layout_take, [], []⟩
def fn0 : List He.DefD := [d_is_integer, d_is_count, d_is_list, d_want_text, d_is_register_word, d_register_in, d_is_name_text, d_is_digits, d_number_text, d_quoted_end, d_plain_end, d_line_words, d_line_parts, d_is_word, d_is_image_part, d_cells_of_parts, d_are_apart, d_are_image_parts, d_parts_of_cells, d_form_by_name]
def fn1 : List He.DefD := [d_number_by_name, d_is_instruction_value, d_want_instruction, d_instruction_as_word, d_operations, d_is_instruction, d_encoded, d_value_in, d_values_in, d_worth_in, d_bounded_number, d_shaped_signs, d_shaped_data, d_shaped_instruction, d_shaped_set, d_shaped, d_word_worth, d_told_word, d_told_words, d_gone_through]
def fn2 : List He.DefD := [d_want_right, d_laid_text, d_first_bad, d_assembled, d_names_of, d_law_pot, d_law_draw, d_law_pick, d_law_names, d_law_instruction, d_law_word, d_law_said, d_law_items, d_law_told, d_law_number, d_law_value, d_law_line, d_law_deed, d_law_spread, d_law_program]
def fn3 : List He.DefD := [d_law_parts, d_law_plainer, d_law_right, d_law, d_Image_init, d_Image_parts, d_Image_word, d_Image_eq, d_Layout_init, d_Layout_tell, d_Layout_lay, d_Layout_take]
def fn : List He.DefD := fn0 ++ (fn1 ++ (fn2 ++ (fn3)))
def ts : List He.Tab := [(fun K => He.ga K "FORMS", formsKV.map (·.1)), (fun K => He.ga K "SHAPES", shapesKV.map (·.1)), (fun K => He.ga K "FORM_SHAPES", fshapesKV.map (·.1))]
abbrev AlZ : Type := (He.AlT × He.FnW) × Bool
def obsZ (K : PySem.W.Frag) : AlZ := ((He.obsT fa fn ts K, fnWA K (getAd K)), ex K)
def valZ (w : World) : AlZ := ((He.valT fn ts w, (some ("size", "Image.size", defArgs s_Image_size, .stmts (defBody s_Image_size), defScope s_Image_size, mainGlobals, [], builtinsNs) : He.FnW)), true)
def SaysZ (w : World) (K : PySem.W.Frag) : Prop := obsZ K = valZ w
/-- what an object names, as far as the facts go -/
def refsZ (o : Obj) : List Addr := match o.data with
  | .dict es _ => es.toList.flatMap fun e => He.refV e.val
  | .func fd => He.refV fd.code
  | .cls cd => cd.ns :: cd.mro.flatMap He.refV
  | .fields vs => (match o.cls with
    | .type c => (match decide (c = "property") with
      | true => vs.toList.flatMap He.refV
      | false => [])
    | _ => [])
  | _ => []
def growF (g : Addr → Option Obj) : Nat → List Addr → List Addr
  | 0, fr => fr
  | n + 1, fr => fr ++ growF g n (fr.flatMap fun a => match g a with
    | some o => refsZ o
    | none => [])
def obsG (g : Addr → Option Obj) : AlZ := obsZ (He.frG g (growF g 5 [mainGlobals]))
def hk : PySem.W.Hook where
  α := AlZ
  obs := fun s => obsG s.heap.get?
  val := fun w => valZ w
  says := fun w h => ∃ K : PySem.W.Frag, K.In h ∧ SaysZ w K
  of := fun _ _ e => ⟨_, He.frG_in, e⟩
  keeps := fun _ _ _ ⟨K, hK, c⟩ k => ⟨K, PySem.W.Frag.In.keeps hK k, c⟩
def ob (s : PySem.W.SharedT) : AlZ := obsG (HandSHeadRun.getT s)
theorem ob_eq (s : PySem.W.SharedT) : ob s = hk.obs s.abs := by
  have e : HandSHeadRun.getT s = s.abs.heap.get? := funext (HandSHeadRun.getT_eq s)
  unfold ob
  rw [e]
  rfl
abbrev R : PySem.W.OpenRow := PySem.W.OpenLaw.row PySem.Challenge.rw_orderlycore_k21_whole_texts_assembled
def loose0 : List Str := ["CoreError", "InvalidPlace", "InvalidInstruction", "BadText", "InvalidParts", "is_integer", "is_count", "is_list", "SMALL_LETTERS", "DECIMAL", "SIXTEENS", "NAME_SIGNS", "MOST_NAME", "MOST_DECIMAL", "MOST_SIXTEENS", "QUOTE", "want_text", "is_register_word", "register_in", "is_name_text", "is_digits", "number_text", "quoted_end", "plain_end", "line_words", "line_parts", "MOST_WORD", "MEMORY_END", "is_word", "is_image_part"]
def loose1 : List Str := ["cells_of_parts", "are_apart", "are_image_parts", "parts_of_cells", "Image", "FORMS", "SHAPES", "PLACES", "OPERATION_BIT", "MOST_REGISTER", "form_by_name", "number_by_name", "is_instruction_value", "want_instruction", "instruction_as_word", "operations", "is_instruction", "encoded", "MOST_SPACE", "MOST_VALUES", "MOST_SIGNS", "LEAST_WORTH", "END_WORTH", "FORM_SHAPES", "BRANCHES", "value_in", "values_in", "worth_in", "bounded_number", "shaped_signs"]
def loose2 : List Str := ["shaped_data", "shaped_instruction", "shaped_set", "shaped", "Layout", "word_worth", "told_word", "told_words", "gone_through", "want_right", "laid_text", "first_bad", "assembled", "names_of", "_law_pot", "_law_draw", "_law_pick", "_law_names", "_law_instruction", "_law_word", "_law_said", "_law_items", "_law_told", "_law_number", "_law_value", "_law_line", "_law_deed", "_law_spread", "_law_program", "_law_parts"]
def loose3 : List Str := ["_law_plainer", "_law_right"]
def loose : List Str := loose0 ++ (loose1 ++ (loose2 ++ (loose3)))
theorem run0 (w : World) : HandSHeadRun.RunEq R (PySem.W.view R.prog [100]) hk ob 60000 loose (w.withFollow "special-get-raises" false) := by
  intro os
  kernel_rfl
theorem run1 (w : World) : HandSHeadRun.RunEq R (PySem.W.view R.prog [100]) hk ob 60000 loose (w.withFollow "special-get-raises" true) := by
  intro os
  kernel_rfl
theorem run (w : World) : HandSHeadRun.RunEq R (PySem.W.view R.prog [100]) hk ob 60000 loose w := PySem.W.byRow2 "special-get-raises" (P := HandSHeadRun.RunEq R (PySem.W.view R.prog [100]) hk ob 60000 loose) run0 run1 w
end K21
/-! ## K21Facts -/
set_option Elab.async false
set_option linter.all false
set_option maxRecDepth 100000
set_option maxHeartbeats 4000000
namespace K21
open PySem PySem.Spec PyProof.Rows L2
/-! what the top left, fact by fact -/
structure Tx (w : World) (K : PySem.W.Frag) (mg : Str → Option Value) : Prop where
  says : SaysZ w K
  at_ : ∃ h : Heap, K.In h ∧ h.Ns mainGlobals mg
namespace Tx
variable {w : World} {K : PySem.W.Frag} {mg : Str → Option Value}
theorem ct (T : Tx w K mg) : He.SaysT fa fn ts w K := congrArg (fun z : AlZ => z.1.1) T.says
theorem cd (T : Tx w K mg) : He.SaysD fa fn K := T.ct.d
theorem cx (T : Tx w K mg) : ex K = true := congrArg (fun z : AlZ => z.2) T.says
theorem glo (T : Tx w K mg) {x : Str} (c : (He.Fa.glo x).ok K = true) : mg x = some (.ref (He.ga K x)) := by
  obtain ⟨h, X, G⟩ := T.at_
  exact He.glo_ok X G c
theorem fre (T : Tx w K mg) {x : Str} (c : (He.Fa.free x).ok K = true) : mg x = none := by
  obtain ⟨h, X, G⟩ := T.at_
  exact He.free_ok X G c
theorem itg (T : Tx w K mg) {x : Str} {i : Int} (c : (He.Fa.int x i).ok K = true) : ∃ u, mg x = some u ∧ RelV (.int i) u := by
  obtain ⟨h, X, G⟩ := T.at_
  obtain ⟨t, e⟩ := He.int_ok X G c
  exact ⟨_, e, t, rfl⟩
theorem sti (T : Tx w K mg) {x z : Str} (c : (He.Fa.str x z).ok K = true) : ∃ u, mg x = some u ∧ RelV (.str z) u := by
  obtain ⟨h, X, G⟩ := T.at_
  obtain ⟨t, e⟩ := He.str_ok X G c
  exact ⟨_, e, t, rfl⟩
theorem ob (T : Tx w K mg) {x : Str} (c : (He.Fa.glo x).ok K = true) : ∃ u, mg x = some u ∧ RelV (.ref (He.ga K x)) u := ⟨_, T.glo c, rfl⟩
theorem m_is_integer (T : Tx w K mg) : mg "is_integer" = some (.ref (He.ga K "is_integer")) := T.glo (T.cd.fact 0)
theorem m_is_count (T : Tx w K mg) : mg "is_count" = some (.ref (He.ga K "is_count")) := T.glo (T.cd.fact 1)
theorem m_is_list (T : Tx w K mg) : mg "is_list" = some (.ref (He.ga K "is_list")) := T.glo (T.cd.fact 2)
theorem m_want_text (T : Tx w K mg) : mg "want_text" = some (.ref (He.ga K "want_text")) := T.glo (T.cd.fact 3)
theorem m_is_register_word (T : Tx w K mg) : mg "is_register_word" = some (.ref (He.ga K "is_register_word")) := T.glo (T.cd.fact 4)
theorem m_register_in (T : Tx w K mg) : mg "register_in" = some (.ref (He.ga K "register_in")) := T.glo (T.cd.fact 5)
theorem m_is_name_text (T : Tx w K mg) : mg "is_name_text" = some (.ref (He.ga K "is_name_text")) := T.glo (T.cd.fact 6)
theorem m_is_digits (T : Tx w K mg) : mg "is_digits" = some (.ref (He.ga K "is_digits")) := T.glo (T.cd.fact 7)
theorem m_number_text (T : Tx w K mg) : mg "number_text" = some (.ref (He.ga K "number_text")) := T.glo (T.cd.fact 8)
theorem m_quoted_end (T : Tx w K mg) : mg "quoted_end" = some (.ref (He.ga K "quoted_end")) := T.glo (T.cd.fact 9)
theorem m_plain_end (T : Tx w K mg) : mg "plain_end" = some (.ref (He.ga K "plain_end")) := T.glo (T.cd.fact 10)
theorem m_line_words (T : Tx w K mg) : mg "line_words" = some (.ref (He.ga K "line_words")) := T.glo (T.cd.fact 11)
theorem m_line_parts (T : Tx w K mg) : mg "line_parts" = some (.ref (He.ga K "line_parts")) := T.glo (T.cd.fact 12)
theorem m_is_word (T : Tx w K mg) : mg "is_word" = some (.ref (He.ga K "is_word")) := T.glo (T.cd.fact 13)
theorem m_is_image_part (T : Tx w K mg) : mg "is_image_part" = some (.ref (He.ga K "is_image_part")) := T.glo (T.cd.fact 14)
theorem m_cells_of_parts (T : Tx w K mg) : mg "cells_of_parts" = some (.ref (He.ga K "cells_of_parts")) := T.glo (T.cd.fact 15)
theorem m_are_apart (T : Tx w K mg) : mg "are_apart" = some (.ref (He.ga K "are_apart")) := T.glo (T.cd.fact 16)
theorem m_are_image_parts (T : Tx w K mg) : mg "are_image_parts" = some (.ref (He.ga K "are_image_parts")) := T.glo (T.cd.fact 17)
theorem m_parts_of_cells (T : Tx w K mg) : mg "parts_of_cells" = some (.ref (He.ga K "parts_of_cells")) := T.glo (T.cd.fact 18)
theorem m_form_by_name (T : Tx w K mg) : mg "form_by_name" = some (.ref (He.ga K "form_by_name")) := T.glo (T.cd.fact 19)
theorem m_number_by_name (T : Tx w K mg) : mg "number_by_name" = some (.ref (He.ga K "number_by_name")) := T.glo (T.cd.fact 20)
theorem m_is_instruction_value (T : Tx w K mg) : mg "is_instruction_value" = some (.ref (He.ga K "is_instruction_value")) := T.glo (T.cd.fact 21)
theorem m_want_instruction (T : Tx w K mg) : mg "want_instruction" = some (.ref (He.ga K "want_instruction")) := T.glo (T.cd.fact 22)
theorem m_instruction_as_word (T : Tx w K mg) : mg "instruction_as_word" = some (.ref (He.ga K "instruction_as_word")) := T.glo (T.cd.fact 23)
theorem m_operations (T : Tx w K mg) : mg "operations" = some (.ref (He.ga K "operations")) := T.glo (T.cd.fact 24)
theorem m_is_instruction (T : Tx w K mg) : mg "is_instruction" = some (.ref (He.ga K "is_instruction")) := T.glo (T.cd.fact 25)
theorem m_encoded (T : Tx w K mg) : mg "encoded" = some (.ref (He.ga K "encoded")) := T.glo (T.cd.fact 26)
theorem m_value_in (T : Tx w K mg) : mg "value_in" = some (.ref (He.ga K "value_in")) := T.glo (T.cd.fact 27)
theorem m_values_in (T : Tx w K mg) : mg "values_in" = some (.ref (He.ga K "values_in")) := T.glo (T.cd.fact 28)
theorem m_worth_in (T : Tx w K mg) : mg "worth_in" = some (.ref (He.ga K "worth_in")) := T.glo (T.cd.fact 29)
theorem m_bounded_number (T : Tx w K mg) : mg "bounded_number" = some (.ref (He.ga K "bounded_number")) := T.glo (T.cd.fact 30)
theorem m_shaped_signs (T : Tx w K mg) : mg "shaped_signs" = some (.ref (He.ga K "shaped_signs")) := T.glo (T.cd.fact 31)
theorem m_shaped_data (T : Tx w K mg) : mg "shaped_data" = some (.ref (He.ga K "shaped_data")) := T.glo (T.cd.fact 32)
theorem m_shaped_instruction (T : Tx w K mg) : mg "shaped_instruction" = some (.ref (He.ga K "shaped_instruction")) := T.glo (T.cd.fact 33)
theorem m_shaped_set (T : Tx w K mg) : mg "shaped_set" = some (.ref (He.ga K "shaped_set")) := T.glo (T.cd.fact 34)
theorem m_shaped (T : Tx w K mg) : mg "shaped" = some (.ref (He.ga K "shaped")) := T.glo (T.cd.fact 35)
theorem m_word_worth (T : Tx w K mg) : mg "word_worth" = some (.ref (He.ga K "word_worth")) := T.glo (T.cd.fact 36)
theorem m_told_word (T : Tx w K mg) : mg "told_word" = some (.ref (He.ga K "told_word")) := T.glo (T.cd.fact 37)
theorem m_told_words (T : Tx w K mg) : mg "told_words" = some (.ref (He.ga K "told_words")) := T.glo (T.cd.fact 38)
theorem m_gone_through (T : Tx w K mg) : mg "gone_through" = some (.ref (He.ga K "gone_through")) := T.glo (T.cd.fact 39)
theorem m_want_right (T : Tx w K mg) : mg "want_right" = some (.ref (He.ga K "want_right")) := T.glo (T.cd.fact 40)
theorem m_laid_text (T : Tx w K mg) : mg "laid_text" = some (.ref (He.ga K "laid_text")) := T.glo (T.cd.fact 41)
theorem m_first_bad (T : Tx w K mg) : mg "first_bad" = some (.ref (He.ga K "first_bad")) := T.glo (T.cd.fact 42)
theorem m_assembled (T : Tx w K mg) : mg "assembled" = some (.ref (He.ga K "assembled")) := T.glo (T.cd.fact 43)
theorem m_names_of (T : Tx w K mg) : mg "names_of" = some (.ref (He.ga K "names_of")) := T.glo (T.cd.fact 44)
theorem m_law_pot (T : Tx w K mg) : mg "_law_pot" = some (.ref (He.ga K "_law_pot")) := T.glo (T.cd.fact 45)
theorem m_law_draw (T : Tx w K mg) : mg "_law_draw" = some (.ref (He.ga K "_law_draw")) := T.glo (T.cd.fact 46)
theorem m_law_pick (T : Tx w K mg) : mg "_law_pick" = some (.ref (He.ga K "_law_pick")) := T.glo (T.cd.fact 47)
theorem m_law_names (T : Tx w K mg) : mg "_law_names" = some (.ref (He.ga K "_law_names")) := T.glo (T.cd.fact 48)
theorem m_law_instruction (T : Tx w K mg) : mg "_law_instruction" = some (.ref (He.ga K "_law_instruction")) := T.glo (T.cd.fact 49)
theorem m_law_word (T : Tx w K mg) : mg "_law_word" = some (.ref (He.ga K "_law_word")) := T.glo (T.cd.fact 50)
theorem m_law_said (T : Tx w K mg) : mg "_law_said" = some (.ref (He.ga K "_law_said")) := T.glo (T.cd.fact 51)
theorem m_law_items (T : Tx w K mg) : mg "_law_items" = some (.ref (He.ga K "_law_items")) := T.glo (T.cd.fact 52)
theorem m_law_told (T : Tx w K mg) : mg "_law_told" = some (.ref (He.ga K "_law_told")) := T.glo (T.cd.fact 53)
theorem m_law_number (T : Tx w K mg) : mg "_law_number" = some (.ref (He.ga K "_law_number")) := T.glo (T.cd.fact 54)
theorem m_law_value (T : Tx w K mg) : mg "_law_value" = some (.ref (He.ga K "_law_value")) := T.glo (T.cd.fact 55)
theorem m_law_line (T : Tx w K mg) : mg "_law_line" = some (.ref (He.ga K "_law_line")) := T.glo (T.cd.fact 56)
theorem m_law_deed (T : Tx w K mg) : mg "_law_deed" = some (.ref (He.ga K "_law_deed")) := T.glo (T.cd.fact 57)
theorem m_law_spread (T : Tx w K mg) : mg "_law_spread" = some (.ref (He.ga K "_law_spread")) := T.glo (T.cd.fact 58)
theorem m_law_program (T : Tx w K mg) : mg "_law_program" = some (.ref (He.ga K "_law_program")) := T.glo (T.cd.fact 59)
theorem m_law_parts (T : Tx w K mg) : mg "_law_parts" = some (.ref (He.ga K "_law_parts")) := T.glo (T.cd.fact 60)
theorem m_law_plainer (T : Tx w K mg) : mg "_law_plainer" = some (.ref (He.ga K "_law_plainer")) := T.glo (T.cd.fact 61)
theorem m_law_right (T : Tx w K mg) : mg "_law_right" = some (.ref (He.ga K "_law_right")) := T.glo (T.cd.fact 62)
theorem m_law (T : Tx w K mg) : mg "law" = some (.ref (He.ga K "law")) := T.glo (T.cd.fact 63)
theorem m_Image (T : Tx w K mg) : mg "Image" = some (.ref (He.ga K "Image")) := T.glo (T.cd.fact 64)
theorem v_Image (T : Tx w K mg) : ∃ u, mg "Image" = some u ∧ RelV (.ref (He.ga K "Image")) u := T.ob (T.cd.fact 64)
theorem m_Layout (T : Tx w K mg) : mg "Layout" = some (.ref (He.ga K "Layout")) := T.glo (T.cd.fact 65)
theorem v_Layout (T : Tx w K mg) : ∃ u, mg "Layout" = some u ∧ RelV (.ref (He.ga K "Layout")) u := T.ob (T.cd.fact 65)
theorem m_FORMS (T : Tx w K mg) : mg "FORMS" = some (.ref (He.ga K "FORMS")) := T.glo (T.cd.fact 66)
theorem v_FORMS (T : Tx w K mg) : ∃ u, mg "FORMS" = some u ∧ RelV (.ref (He.ga K "FORMS")) u := T.ob (T.cd.fact 66)
theorem m_SHAPES (T : Tx w K mg) : mg "SHAPES" = some (.ref (He.ga K "SHAPES")) := T.glo (T.cd.fact 67)
theorem v_SHAPES (T : Tx w K mg) : ∃ u, mg "SHAPES" = some u ∧ RelV (.ref (He.ga K "SHAPES")) u := T.ob (T.cd.fact 67)
theorem m_FORM_SHAPES (T : Tx w K mg) : mg "FORM_SHAPES" = some (.ref (He.ga K "FORM_SHAPES")) := T.glo (T.cd.fact 68)
theorem v_FORM_SHAPES (T : Tx w K mg) : ∃ u, mg "FORM_SHAPES" = some u ∧ RelV (.ref (He.ga K "FORM_SHAPES")) u := T.ob (T.cd.fact 68)
theorem m_PLACES (T : Tx w K mg) : mg "PLACES" = some (.ref (He.ga K "PLACES")) := T.glo (T.cd.fact 69)
theorem v_PLACES (T : Tx w K mg) : ∃ u, mg "PLACES" = some u ∧ RelV (.ref (He.ga K "PLACES")) u := T.ob (T.cd.fact 69)
theorem m_BRANCHES (T : Tx w K mg) : mg "BRANCHES" = some (.ref (He.ga K "BRANCHES")) := T.glo (T.cd.fact 70)
theorem v_BRANCHES (T : Tx w K mg) : ∃ u, mg "BRANCHES" = some u ∧ RelV (.ref (He.ga K "BRANCHES")) u := T.ob (T.cd.fact 70)
theorem f_isinstance (T : Tx w K mg) : mg "isinstance" = none := T.fre (T.cd.fact 71)
theorem f_int (T : Tx w K mg) : mg "int" = none := T.fre (T.cd.fact 72)
theorem f_bool (T : Tx w K mg) : mg "bool" = none := T.fre (T.cd.fact 73)
theorem f_str (T : Tx w K mg) : mg "str" = none := T.fre (T.cd.fact 74)
theorem f_list (T : Tx w K mg) : mg "list" = none := T.fre (T.cd.fact 75)
theorem f_tuple (T : Tx w K mg) : mg "tuple" = none := T.fre (T.cd.fact 76)
theorem f_len (T : Tx w K mg) : mg "len" = none := T.fre (T.cd.fact 77)
theorem f_all (T : Tx w K mg) : mg "all" = none := T.fre (T.cd.fact 78)
theorem f_any (T : Tx w K mg) : mg "any" = none := T.fre (T.cd.fact 79)
theorem f_sorted (T : Tx w K mg) : mg "sorted" = none := T.fre (T.cd.fact 80)
theorem f_enumerate (T : Tx w K mg) : mg "enumerate" = none := T.fre (T.cd.fact 81)
theorem f_zip (T : Tx w K mg) : mg "zip" = none := T.fre (T.cd.fact 82)
theorem f_range (T : Tx w K mg) : mg "range" = none := T.fre (T.cd.fact 83)
theorem f_ord (T : Tx w K mg) : mg "ord" = none := T.fre (T.cd.fact 84)
theorem f_sum (T : Tx w K mg) : mg "sum" = none := T.fre (T.cd.fact 85)
theorem f_max (T : Tx w K mg) : mg "max" = none := T.fre (T.cd.fact 86)
theorem f_abs (T : Tx w K mg) : mg "abs" = none := T.fre (T.cd.fact 87)
theorem f_divmod (T : Tx w K mg) : mg "divmod" = none := T.fre (T.cd.fact 88)
theorem v_MOST_NAME (T : Tx w K mg) : ∃ u, mg "MOST_NAME" = some u ∧ RelV (.int 12) u := T.itg (T.cd.fact 89)
theorem v_MOST_DECIMAL (T : Tx w K mg) : ∃ u, mg "MOST_DECIMAL" = some u ∧ RelV (.int 6) u := T.itg (T.cd.fact 90)
theorem v_MOST_SIXTEENS (T : Tx w K mg) : ∃ u, mg "MOST_SIXTEENS" = some u ∧ RelV (.int 4) u := T.itg (T.cd.fact 91)
theorem v_MOST_WORD (T : Tx w K mg) : ∃ u, mg "MOST_WORD" = some u ∧ RelV (.int 65536) u := T.itg (T.cd.fact 92)
theorem v_MEMORY_END (T : Tx w K mg) : ∃ u, mg "MEMORY_END" = some u ∧ RelV (.int 960) u := T.itg (T.cd.fact 93)
theorem v_OPERATION_BIT (T : Tx w K mg) : ∃ u, mg "OPERATION_BIT" = some u ∧ RelV (.int 11) u := T.itg (T.cd.fact 94)
theorem v_MOST_REGISTER (T : Tx w K mg) : ∃ u, mg "MOST_REGISTER" = some u ∧ RelV (.int 7) u := T.itg (T.cd.fact 95)
theorem v_MOST_SPACE (T : Tx w K mg) : ∃ u, mg "MOST_SPACE" = some u ∧ RelV (.int 400) u := T.itg (T.cd.fact 96)
theorem v_MOST_VALUES (T : Tx w K mg) : ∃ u, mg "MOST_VALUES" = some u ∧ RelV (.int 40) u := T.itg (T.cd.fact 97)
theorem v_MOST_SIGNS (T : Tx w K mg) : ∃ u, mg "MOST_SIGNS" = some u ∧ RelV (.int 80) u := T.itg (T.cd.fact 98)
theorem v_LEAST_WORTH (T : Tx w K mg) : ∃ u, mg "LEAST_WORTH" = some u ∧ RelV (.int (-32768)) u := T.itg (T.cd.fact 99)
theorem v_END_WORTH (T : Tx w K mg) : ∃ u, mg "END_WORTH" = some u ∧ RelV (.int 65536) u := T.itg (T.cd.fact 100)
theorem v_SMALL_LETTERS (T : Tx w K mg) : ∃ u, mg "SMALL_LETTERS" = some u ∧ RelV (.str "abcdefghijklmnopqrstuvwxyz") u := T.sti (T.cd.fact 101)
theorem v_DECIMAL (T : Tx w K mg) : ∃ u, mg "DECIMAL" = some u ∧ RelV (.str "0123456789") u := T.sti (T.cd.fact 102)
theorem v_SIXTEENS (T : Tx w K mg) : ∃ u, mg "SIXTEENS" = some u ∧ RelV (.str "0123456789abcdef") u := T.sti (T.cd.fact 103)
theorem v_NAME_SIGNS (T : Tx w K mg) : ∃ u, mg "NAME_SIGNS" = some u ∧ RelV (.str "abcdefghijklmnopqrstuvwxyz0123456789_") u := T.sti (T.cd.fact 104)
theorem v_QUOTE (T : Tx w K mg) : ∃ u, mg "QUOTE" = some u ∧ RelV (.str "\"") u := T.sti (T.cd.fact 105)
theorem cl_Image (T : Tx w K mg) : Cls K (He.ga K "Image") := He.cls_ok (T.cd.fact 106)
theorem mk_Image (T : Tx w K mg) : Mk K (He.ga K "Image") (He.ma K (He.ga K "Image") "__init__") := He.mkr_ok (T.cd.fact 107)
theorem cl_Layout (T : Tx w K mg) : Cls K (He.ga K "Layout") := He.cls_ok (T.cd.fact 108)
theorem mk_Layout (T : Tx w K mg) : Mk K (He.ga K "Layout") (He.ma K (He.ga K "Layout") "__init__") := He.mkr_ok (T.cd.fact 109)
theorem na_Image_own_parts (T : Tx w K mg) : NoAttr K (He.ga K "Image") "own_parts" := He.noat_ok (T.cd.fact 110)
theorem na_Layout_own_place (T : Tx w K mg) : NoAttr K (He.ga K "Layout") "own_place" := He.noat_ok (T.cd.fact 111)
theorem na_Layout_own_names (T : Tx w K mg) : NoAttr K (He.ga K "Layout") "own_names" := He.noat_ok (T.cd.fact 112)
theorem na_Layout_own_taken (T : Tx w K mg) : NoAttr K (He.ga K "Layout") "own_taken" := He.noat_ok (T.cd.fact 113)
theorem na_Layout_own_rows (T : Tx w K mg) : NoAttr K (He.ga K "Layout") "own_rows" := He.noat_ok (T.cd.fact 114)
theorem me_Image_parts (T : Tx w K mg) : Meth K (He.ga K "Image") "parts" (He.ma K (He.ga K "Image") "parts") := He.meth_ok (T.cd.fact 115)
theorem me_Image_word (T : Tx w K mg) : Meth K (He.ga K "Image") "word" (He.ma K (He.ga K "Image") "word") := He.meth_ok (T.cd.fact 116)
theorem me_Image_eq (T : Tx w K mg) : Meth K (He.ga K "Image") "__eq__" (He.ma K (He.ga K "Image") "__eq__") := He.meth_ok (T.cd.fact 117)
theorem me_Layout_tell (T : Tx w K mg) : Meth K (He.ga K "Layout") "tell" (He.ma K (He.ga K "Layout") "tell") := He.meth_ok (T.cd.fact 118)
theorem me_Layout_lay (T : Tx w K mg) : Meth K (He.ga K "Layout") "lay" (He.ma K (He.ga K "Layout") "lay") := He.meth_ok (T.cd.fact 119)
theorem me_Layout_take (T : Tx w K mg) : Meth K (He.ga K "Layout") "take" (He.ma K (He.ga K "Layout") "take") := He.meth_ok (T.cd.fact 120)
theorem d_is_integer (T : Tx w K mg) : ∃ fd, FunD K d_is_integer.name d_is_integer.qual d_is_integer.params d_is_integer.body d_is_integer.scope [] [] (He.fAd K d_is_integer.at_) fd := T.cd.def_ 0
theorem d_is_count (T : Tx w K mg) : ∃ fd, FunD K d_is_count.name d_is_count.qual d_is_count.params d_is_count.body d_is_count.scope [] [] (He.fAd K d_is_count.at_) fd := T.cd.def_ 1
theorem d_is_list (T : Tx w K mg) : ∃ fd, FunD K d_is_list.name d_is_list.qual d_is_list.params d_is_list.body d_is_list.scope [] [] (He.fAd K d_is_list.at_) fd := T.cd.def_ 2
theorem d_want_text (T : Tx w K mg) : ∃ fd, FunD K d_want_text.name d_want_text.qual d_want_text.params d_want_text.body d_want_text.scope [] [] (He.fAd K d_want_text.at_) fd := T.cd.def_ 3
theorem d_is_register_word (T : Tx w K mg) : ∃ fd, FunD K d_is_register_word.name d_is_register_word.qual d_is_register_word.params d_is_register_word.body d_is_register_word.scope [] [] (He.fAd K d_is_register_word.at_) fd := T.cd.def_ 4
theorem d_register_in (T : Tx w K mg) : ∃ fd, FunD K d_register_in.name d_register_in.qual d_register_in.params d_register_in.body d_register_in.scope [] [] (He.fAd K d_register_in.at_) fd := T.cd.def_ 5
theorem d_is_name_text (T : Tx w K mg) : ∃ fd, FunD K d_is_name_text.name d_is_name_text.qual d_is_name_text.params d_is_name_text.body d_is_name_text.scope [] [] (He.fAd K d_is_name_text.at_) fd := T.cd.def_ 6
theorem d_is_digits (T : Tx w K mg) : ∃ fd, FunD K d_is_digits.name d_is_digits.qual d_is_digits.params d_is_digits.body d_is_digits.scope [] [] (He.fAd K d_is_digits.at_) fd := T.cd.def_ 7
theorem d_number_text (T : Tx w K mg) : ∃ fd, FunD K d_number_text.name d_number_text.qual d_number_text.params d_number_text.body d_number_text.scope [] [] (He.fAd K d_number_text.at_) fd := T.cd.def_ 8
theorem d_quoted_end (T : Tx w K mg) : ∃ fd, FunD K d_quoted_end.name d_quoted_end.qual d_quoted_end.params d_quoted_end.body d_quoted_end.scope [] [] (He.fAd K d_quoted_end.at_) fd := T.cd.def_ 9
theorem d_plain_end (T : Tx w K mg) : ∃ fd, FunD K d_plain_end.name d_plain_end.qual d_plain_end.params d_plain_end.body d_plain_end.scope [] [] (He.fAd K d_plain_end.at_) fd := T.cd.def_ 10
theorem d_line_words (T : Tx w K mg) : ∃ fd, FunD K d_line_words.name d_line_words.qual d_line_words.params d_line_words.body d_line_words.scope [] [] (He.fAd K d_line_words.at_) fd := T.cd.def_ 11
theorem d_line_parts (T : Tx w K mg) : ∃ fd, FunD K d_line_parts.name d_line_parts.qual d_line_parts.params d_line_parts.body d_line_parts.scope [] [] (He.fAd K d_line_parts.at_) fd := T.cd.def_ 12
theorem d_is_word (T : Tx w K mg) : ∃ fd, FunD K d_is_word.name d_is_word.qual d_is_word.params d_is_word.body d_is_word.scope [] [] (He.fAd K d_is_word.at_) fd := T.cd.def_ 13
theorem d_is_image_part (T : Tx w K mg) : ∃ fd, FunD K d_is_image_part.name d_is_image_part.qual d_is_image_part.params d_is_image_part.body d_is_image_part.scope [] [] (He.fAd K d_is_image_part.at_) fd := T.cd.def_ 14
theorem d_cells_of_parts (T : Tx w K mg) : ∃ fd, FunD K d_cells_of_parts.name d_cells_of_parts.qual d_cells_of_parts.params d_cells_of_parts.body d_cells_of_parts.scope [] [] (He.fAd K d_cells_of_parts.at_) fd := T.cd.def_ 15
theorem d_are_apart (T : Tx w K mg) : ∃ fd, FunD K d_are_apart.name d_are_apart.qual d_are_apart.params d_are_apart.body d_are_apart.scope [] [] (He.fAd K d_are_apart.at_) fd := T.cd.def_ 16
theorem d_are_image_parts (T : Tx w K mg) : ∃ fd, FunD K d_are_image_parts.name d_are_image_parts.qual d_are_image_parts.params d_are_image_parts.body d_are_image_parts.scope [] [] (He.fAd K d_are_image_parts.at_) fd := T.cd.def_ 17
theorem d_parts_of_cells (T : Tx w K mg) : ∃ fd, FunD K d_parts_of_cells.name d_parts_of_cells.qual d_parts_of_cells.params d_parts_of_cells.body d_parts_of_cells.scope [] [] (He.fAd K d_parts_of_cells.at_) fd := T.cd.def_ 18
theorem d_form_by_name (T : Tx w K mg) : ∃ fd, FunD K d_form_by_name.name d_form_by_name.qual d_form_by_name.params d_form_by_name.body d_form_by_name.scope [] [] (He.fAd K d_form_by_name.at_) fd := T.cd.def_ 19
theorem d_number_by_name (T : Tx w K mg) : ∃ fd, FunD K d_number_by_name.name d_number_by_name.qual d_number_by_name.params d_number_by_name.body d_number_by_name.scope [] [] (He.fAd K d_number_by_name.at_) fd := T.cd.def_ 20
theorem d_is_instruction_value (T : Tx w K mg) : ∃ fd, FunD K d_is_instruction_value.name d_is_instruction_value.qual d_is_instruction_value.params d_is_instruction_value.body d_is_instruction_value.scope [] [] (He.fAd K d_is_instruction_value.at_) fd := T.cd.def_ 21
theorem d_want_instruction (T : Tx w K mg) : ∃ fd, FunD K d_want_instruction.name d_want_instruction.qual d_want_instruction.params d_want_instruction.body d_want_instruction.scope [] [] (He.fAd K d_want_instruction.at_) fd := T.cd.def_ 22
theorem d_instruction_as_word (T : Tx w K mg) : ∃ fd, FunD K d_instruction_as_word.name d_instruction_as_word.qual d_instruction_as_word.params d_instruction_as_word.body d_instruction_as_word.scope [] [] (He.fAd K d_instruction_as_word.at_) fd := T.cd.def_ 23
theorem d_operations (T : Tx w K mg) : ∃ fd, FunD K d_operations.name d_operations.qual d_operations.params d_operations.body d_operations.scope [] [] (He.fAd K d_operations.at_) fd := T.cd.def_ 24
theorem d_is_instruction (T : Tx w K mg) : ∃ fd, FunD K d_is_instruction.name d_is_instruction.qual d_is_instruction.params d_is_instruction.body d_is_instruction.scope [] [] (He.fAd K d_is_instruction.at_) fd := T.cd.def_ 25
theorem d_encoded (T : Tx w K mg) : ∃ fd, FunD K d_encoded.name d_encoded.qual d_encoded.params d_encoded.body d_encoded.scope [] [] (He.fAd K d_encoded.at_) fd := T.cd.def_ 26
theorem d_value_in (T : Tx w K mg) : ∃ fd, FunD K d_value_in.name d_value_in.qual d_value_in.params d_value_in.body d_value_in.scope [] [] (He.fAd K d_value_in.at_) fd := T.cd.def_ 27
theorem d_values_in (T : Tx w K mg) : ∃ fd, FunD K d_values_in.name d_values_in.qual d_values_in.params d_values_in.body d_values_in.scope [] [] (He.fAd K d_values_in.at_) fd := T.cd.def_ 28
theorem d_worth_in (T : Tx w K mg) : ∃ fd, FunD K d_worth_in.name d_worth_in.qual d_worth_in.params d_worth_in.body d_worth_in.scope [] [] (He.fAd K d_worth_in.at_) fd := T.cd.def_ 29
theorem d_bounded_number (T : Tx w K mg) : ∃ fd, FunD K d_bounded_number.name d_bounded_number.qual d_bounded_number.params d_bounded_number.body d_bounded_number.scope [] [] (He.fAd K d_bounded_number.at_) fd := T.cd.def_ 30
theorem d_shaped_signs (T : Tx w K mg) : ∃ fd, FunD K d_shaped_signs.name d_shaped_signs.qual d_shaped_signs.params d_shaped_signs.body d_shaped_signs.scope [] [] (He.fAd K d_shaped_signs.at_) fd := T.cd.def_ 31
theorem d_shaped_data (T : Tx w K mg) : ∃ fd, FunD K d_shaped_data.name d_shaped_data.qual d_shaped_data.params d_shaped_data.body d_shaped_data.scope [] [] (He.fAd K d_shaped_data.at_) fd := T.cd.def_ 32
theorem d_shaped_instruction (T : Tx w K mg) : ∃ fd, FunD K d_shaped_instruction.name d_shaped_instruction.qual d_shaped_instruction.params d_shaped_instruction.body d_shaped_instruction.scope [] [] (He.fAd K d_shaped_instruction.at_) fd := T.cd.def_ 33
theorem d_shaped_set (T : Tx w K mg) : ∃ fd, FunD K d_shaped_set.name d_shaped_set.qual d_shaped_set.params d_shaped_set.body d_shaped_set.scope [] [] (He.fAd K d_shaped_set.at_) fd := T.cd.def_ 34
theorem d_shaped (T : Tx w K mg) : ∃ fd, FunD K d_shaped.name d_shaped.qual d_shaped.params d_shaped.body d_shaped.scope [] [] (He.fAd K d_shaped.at_) fd := T.cd.def_ 35
theorem d_word_worth (T : Tx w K mg) : ∃ fd, FunD K d_word_worth.name d_word_worth.qual d_word_worth.params d_word_worth.body d_word_worth.scope [] [] (He.fAd K d_word_worth.at_) fd := T.cd.def_ 36
theorem d_told_word (T : Tx w K mg) : ∃ fd, FunD K d_told_word.name d_told_word.qual d_told_word.params d_told_word.body d_told_word.scope [] [] (He.fAd K d_told_word.at_) fd := T.cd.def_ 37
theorem d_told_words (T : Tx w K mg) : ∃ fd, FunD K d_told_words.name d_told_words.qual d_told_words.params d_told_words.body d_told_words.scope [] [] (He.fAd K d_told_words.at_) fd := T.cd.def_ 38
theorem d_gone_through (T : Tx w K mg) : ∃ fd, FunD K d_gone_through.name d_gone_through.qual d_gone_through.params d_gone_through.body d_gone_through.scope [] [] (He.fAd K d_gone_through.at_) fd := T.cd.def_ 39
theorem d_want_right (T : Tx w K mg) : ∃ fd, FunD K d_want_right.name d_want_right.qual d_want_right.params d_want_right.body d_want_right.scope [] [] (He.fAd K d_want_right.at_) fd := T.cd.def_ 40
theorem d_laid_text (T : Tx w K mg) : ∃ fd, FunD K d_laid_text.name d_laid_text.qual d_laid_text.params d_laid_text.body d_laid_text.scope [] [] (He.fAd K d_laid_text.at_) fd := T.cd.def_ 41
theorem d_first_bad (T : Tx w K mg) : ∃ fd, FunD K d_first_bad.name d_first_bad.qual d_first_bad.params d_first_bad.body d_first_bad.scope [] [] (He.fAd K d_first_bad.at_) fd := T.cd.def_ 42
theorem d_assembled (T : Tx w K mg) : ∃ fd, FunD K d_assembled.name d_assembled.qual d_assembled.params d_assembled.body d_assembled.scope [] [] (He.fAd K d_assembled.at_) fd := T.cd.def_ 43
theorem d_names_of (T : Tx w K mg) : ∃ fd, FunD K d_names_of.name d_names_of.qual d_names_of.params d_names_of.body d_names_of.scope [] [] (He.fAd K d_names_of.at_) fd := T.cd.def_ 44
theorem d_law_pot (T : Tx w K mg) : ∃ fd, FunD K d_law_pot.name d_law_pot.qual d_law_pot.params d_law_pot.body d_law_pot.scope [] [] (He.fAd K d_law_pot.at_) fd := T.cd.def_ 45
theorem d_law_draw (T : Tx w K mg) : ∃ fd, FunD K d_law_draw.name d_law_draw.qual d_law_draw.params d_law_draw.body d_law_draw.scope [] [] (He.fAd K d_law_draw.at_) fd := T.cd.def_ 46
theorem d_law_pick (T : Tx w K mg) : ∃ fd, FunD K d_law_pick.name d_law_pick.qual d_law_pick.params d_law_pick.body d_law_pick.scope [] [] (He.fAd K d_law_pick.at_) fd := T.cd.def_ 47
theorem d_law_names (T : Tx w K mg) : ∃ fd, FunD K d_law_names.name d_law_names.qual d_law_names.params d_law_names.body d_law_names.scope [] [] (He.fAd K d_law_names.at_) fd := T.cd.def_ 48
theorem d_law_instruction (T : Tx w K mg) : ∃ fd, FunD K d_law_instruction.name d_law_instruction.qual d_law_instruction.params d_law_instruction.body d_law_instruction.scope [] [] (He.fAd K d_law_instruction.at_) fd := T.cd.def_ 49
theorem d_law_word (T : Tx w K mg) : ∃ fd, FunD K d_law_word.name d_law_word.qual d_law_word.params d_law_word.body d_law_word.scope [] [] (He.fAd K d_law_word.at_) fd := T.cd.def_ 50
theorem d_law_said (T : Tx w K mg) : ∃ fd, FunD K d_law_said.name d_law_said.qual d_law_said.params d_law_said.body d_law_said.scope [] [] (He.fAd K d_law_said.at_) fd := T.cd.def_ 51
theorem d_law_items (T : Tx w K mg) : ∃ fd, FunD K d_law_items.name d_law_items.qual d_law_items.params d_law_items.body d_law_items.scope [] [] (He.fAd K d_law_items.at_) fd := T.cd.def_ 52
theorem d_law_told (T : Tx w K mg) : ∃ fd, FunD K d_law_told.name d_law_told.qual d_law_told.params d_law_told.body d_law_told.scope [] [] (He.fAd K d_law_told.at_) fd := T.cd.def_ 53
theorem d_law_number (T : Tx w K mg) : ∃ fd, FunD K d_law_number.name d_law_number.qual d_law_number.params d_law_number.body d_law_number.scope [] [] (He.fAd K d_law_number.at_) fd := T.cd.def_ 54
theorem d_law_value (T : Tx w K mg) : ∃ fd, FunD K d_law_value.name d_law_value.qual d_law_value.params d_law_value.body d_law_value.scope [] [] (He.fAd K d_law_value.at_) fd := T.cd.def_ 55
theorem d_law_line (T : Tx w K mg) : ∃ fd, FunD K d_law_line.name d_law_line.qual d_law_line.params d_law_line.body d_law_line.scope [] [] (He.fAd K d_law_line.at_) fd := T.cd.def_ 56
theorem d_law_deed (T : Tx w K mg) : ∃ fd, FunD K d_law_deed.name d_law_deed.qual d_law_deed.params d_law_deed.body d_law_deed.scope [] [] (He.fAd K d_law_deed.at_) fd := T.cd.def_ 57
theorem d_law_spread (T : Tx w K mg) : ∃ fd, FunD K d_law_spread.name d_law_spread.qual d_law_spread.params d_law_spread.body d_law_spread.scope [] [] (He.fAd K d_law_spread.at_) fd := T.cd.def_ 58
theorem d_law_program (T : Tx w K mg) : ∃ fd, FunD K d_law_program.name d_law_program.qual d_law_program.params d_law_program.body d_law_program.scope [] [] (He.fAd K d_law_program.at_) fd := T.cd.def_ 59
theorem d_law_parts (T : Tx w K mg) : ∃ fd, FunD K d_law_parts.name d_law_parts.qual d_law_parts.params d_law_parts.body d_law_parts.scope [] [] (He.fAd K d_law_parts.at_) fd := T.cd.def_ 60
theorem d_law_plainer (T : Tx w K mg) : ∃ fd, FunD K d_law_plainer.name d_law_plainer.qual d_law_plainer.params d_law_plainer.body d_law_plainer.scope [] [] (He.fAd K d_law_plainer.at_) fd := T.cd.def_ 61
theorem d_law_right (T : Tx w K mg) : ∃ fd, FunD K d_law_right.name d_law_right.qual d_law_right.params d_law_right.body d_law_right.scope [] [] (He.fAd K d_law_right.at_) fd := T.cd.def_ 62
theorem d_law (T : Tx w K mg) : ∃ fd, FunD K d_law.name d_law.qual d_law.params d_law.body d_law.scope [] [] (He.fAd K d_law.at_) fd := T.cd.def_ 63
theorem d_Image_init (T : Tx w K mg) : ∃ fd, FunD K d_Image_init.name d_Image_init.qual d_Image_init.params d_Image_init.body d_Image_init.scope [] [] (He.fAd K d_Image_init.at_) fd := T.cd.def_ 64
theorem d_Image_parts (T : Tx w K mg) : ∃ fd, FunD K d_Image_parts.name d_Image_parts.qual d_Image_parts.params d_Image_parts.body d_Image_parts.scope [] [] (He.fAd K d_Image_parts.at_) fd := T.cd.def_ 65
theorem d_Image_word (T : Tx w K mg) : ∃ fd, FunD K d_Image_word.name d_Image_word.qual d_Image_word.params d_Image_word.body d_Image_word.scope [] [] (He.fAd K d_Image_word.at_) fd := T.cd.def_ 66
theorem d_Image_eq (T : Tx w K mg) : ∃ fd, FunD K d_Image_eq.name d_Image_eq.qual d_Image_eq.params d_Image_eq.body d_Image_eq.scope [] [] (He.fAd K d_Image_eq.at_) fd := T.cd.def_ 67
theorem d_Layout_init (T : Tx w K mg) : ∃ fd, FunD K d_Layout_init.name d_Layout_init.qual d_Layout_init.params d_Layout_init.body d_Layout_init.scope [] [] (He.fAd K d_Layout_init.at_) fd := T.cd.def_ 68
theorem d_Layout_tell (T : Tx w K mg) : ∃ fd, FunD K d_Layout_tell.name d_Layout_tell.qual d_Layout_tell.params d_Layout_tell.body d_Layout_tell.scope [] [] (He.fAd K d_Layout_tell.at_) fd := T.cd.def_ 69
theorem d_Layout_lay (T : Tx w K mg) : ∃ fd, FunD K d_Layout_lay.name d_Layout_lay.qual d_Layout_lay.params d_Layout_lay.body d_Layout_lay.scope [] [] (He.fAd K d_Layout_lay.at_) fd := T.cd.def_ 70
theorem d_Layout_take (T : Tx w K mg) : ∃ fd, FunD K d_Layout_take.name d_Layout_take.qual d_Layout_take.params d_Layout_take.body d_Layout_take.scope [] [] (He.fAd K d_Layout_take.at_) fd := T.cd.def_ 71
theorem k_FORMS (T : Tx w K mg) : ∃ es n, KDict K w (He.ga K "FORMS") es n := T.ct.tab 0
theorem k_SHAPES (T : Tx w K mg) : ∃ es n, KDict K w (He.ga K "SHAPES") es n := T.ct.tab 1
theorem k_FORM_SHAPES (T : Tx w K mg) : ∃ es n, KDict K w (He.ga K "FORM_SHAPES") es n := T.ct.tab 2
theorem ban {a b : Bool} (h : (a && b) = true) : a = true ∧ b = true := Bool.and_eq_true_iff.mp h
theorem exi (T : Tx w K mg) (i : Nat) {b : Bool} (h : (exL K)[i]? = some b := by rfl) : b = true := by
  have z := List.all_eq_true.mp T.cx b (List.mem_of_getElem? h)
  exact z
theorem x1 (T : Tx w K mg) : He.valsB K (He.ga K "FORMS") formsKV = true := T.exi 0
theorem x2 (T : Tx w K mg) : (shapesKV.all fun q => tabTup K "SHAPES" q.1 q.2) = true := T.exi 1
theorem x3 (T : Tx w K mg) : (fshapesKV.all fun q => tabTup K "FORM_SHAPES" q.1 q.2) = true := T.exi 2
theorem t_PLACES (T : Tx w K mg) (H : Hp) : SqT K H (He.ga K "PLACES") [.int 8, .int 5, .int 0] := He.tupB_ok (vs := [.int 8, .int 5, .int 0]) (T.exi 3) H
theorem t_BRANCHES (T : Tx w K mg) (H : Hp) : SqT K H (He.ga K "BRANCHES") [.str "bz", .str "bnz", .str "jal"] := He.tupB_ok (vs := [.str "bz", .str "bnz", .str "jal"]) (T.exi 4) H
theorem ins_Image (T : Tx w K mg) : C8.InsC K (He.ga K "Image") := ⟨T.cl_Image, He.eqO_ok (T.exi 5), He.eqO_ok (T.exi 6), of_decide_eq_true (T.exi 7), of_decide_eq_true (T.exi 8), of_decide_eq_true (T.exi 9)⟩
theorem prop_size (T : Tx w K mg) : PropOf K (He.ga K "Image") "size" (propAd K) (getAd K) := by
  refine ⟨He.eqO_ok (T.exi 10), He.eqO_ok (T.exi 11), of_decide_eq_true (T.exi 12), ?_⟩
  have z : (match PySem.W.recIn K (propAd K) "property" with
    | some (.ref g :: _) => decide (g = getAd K)
    | _ => false) = true := T.exi 13
  cases e : PySem.W.recIn K (propAd K) "property" with
  | none =>
    rw [e] at z
    cases z
  | some l =>
    rw [e] at z
    cases l with
    | nil => cases z
    | cons v r =>
      cases v with
      | ref g =>
        have eg : g = getAd K := of_decide_eq_true z
        exact ⟨r, by rw [eg]⟩
      | _ => cases z
theorem d_size (T : Tx w K mg) : ∃ fd, FunD K "size" "Image.size" (defArgs s_Image_size) (defBody s_Image_size) (defScope s_Image_size) [] [] (getAd K) fd := by
  have e : fnWA K (getAd K) = (some ("size", "Image.size", defArgs s_Image_size, .stmts (defBody s_Image_size), defScope s_Image_size, mainGlobals, [], builtinsNs) : He.FnW) := congrArg (fun z : AlZ => z.1.2) T.says
  obtain ⟨kp, c2⟩ := ban (show okA K (getAd K) "Image.size" = true from T.exi 14)
  unfold fnWA at e
  cases q : K.lookup (getAd K) with
  | none =>
    rw [q] at c2
    cases c2
  | some o =>
    obtain ⟨oc, od, dt, osl⟩ := o
    rw [q] at c2 e
    cases dt with
    | func fd =>
      obtain ⟨n1, n2, n3, n4, n5, n6, n7, n8, n9, n10, n11, n12, n13, n14, n15⟩ := fd
      have e2 : (some (n1, n2, n3, n4, n5, n6, n7, n15) : He.FnW) = (some (("size" : Str), ("Image.size" : Str), defArgs s_Image_size, FuncBody.stmts (defBody s_Image_size), defScope s_Image_size, mainGlobals, [], builtinsNs) : He.FnW) := e
      simp only [Option.some.injEq, Prod.mk.injEq] at e2
      obtain ⟨h1, h2, h3, h4, h5, h6, h7, h8⟩ := e2
      subst h1 h2 h3 h4 h5 h6 h7 h8
      obtain ⟨k1, k2⟩ := ban (show (PySem.W.codeIn K n13 "Image.size" && (He.dflB K n8 [] && He.kwdB K n9 [])) = true from c2)
      obtain ⟨k3, k4⟩ := ban k2
      exact ⟨_, ⟨oc, od, n8, n9, n10, n11, n12, n13, n14, osl, rfl, q, k1, He.dflB_ok k3, .inl rfl⟩, kp⟩
    | _ => cases c2
/-- a table's tuple -/
theorem tab (T : Tx w K mg) {x key : Str} {vs : List V} (h : tabTup K x key vs = true) : PySem.W.nsIn K (He.ga K x) key = some (some (.ref (tabAt K x key))) ∧ ∀ H, SqT K H (tabAt K x key) vs := by
  obtain ⟨h1, h2⟩ := ban h
  refine ⟨He.eqO_ok h1, fun H => ?_⟩
  unfold tupAt at h2
  cases q : K.lookup (tabAt K x key) with
  | none =>
    rw [q] at h2
    cases h2
  | some o =>
    obtain ⟨oc, od, dt, osl⟩ := o
    rw [q] at h2
    cases oc with
    | type c =>
      cases dt with
      | seq its n =>
        obtain ⟨g1, g2⟩ := ban (show (decide (c = "tuple") && (decide (its.size ≤ sizeLine) && He.relAll vs its.toList)) = true from h2)
        obtain ⟨g3, g4⟩ := ban g2
        exact .inr ⟨_, its, n, q, congrArg Value.type (of_decide_eq_true g1), rfl, of_decide_eq_true g3, He.relAll_ok g4⟩
      | _ => cases h2
    | _ => cases dt <;> cases h2
end Tx
/-! a def of the top by its body; a method; a class that is made -/
section
variable {P : Program} {w : World} {K : PySem.W.Frag} {mg : Str → Option Value} {base : Heap}
abbrev BodyOk (P : Program) (w : World) (K : PySem.W.Frag) (mg : Str → Option Value) (base : Heap) (k : Nat) (f : Addr) (q : Str) (st : Stmt) (N : List Str) (sp : Sp) : Prop :=
  ∀ (cdv : Value) (A : Around) (outer : List Env) (s : Shared) (H : Hp) (vs : List V) (Q : VK) (E : XK), Room k (A.deeper (envOfC q (defScope st) s.heap.objs.size f cdv)) → sp vs H Q E →
      ∃ t, PSs (cxOf CX0 P w K mg base N q (defScope st) f cdv A outer s H E).nox (defBody st) t ∧ t { nx := fun _ H' => Q .non H', rt := Q } (start N vs) H
theorem cal_of {x : Str} {st : Stmt} {N ps : List Str} {k : Nat} {sp : Sp} (hd : ∃ fd, FunD K x x (defArgs st) (defBody st) (defScope st) [] [] (He.ga K x) fd) (hm : mg x = some (.ref (He.ga K x))) (S : FnScope N ps (defScope st))
    (hb : ∀ (kV doc pm : Value) (an : Option Addr) (cdv ct : Value) (us : List Value), us.length = ps.length → bindArgs (PySem.W.fnOf x x (defArgs st) (defBody st) (defScope st) .none kV doc pm an cdv ct) ⟨us, []⟩ = pure (ps.zip us))
    (len : ∀ vs H Q E, sp vs H Q E → vs.length = ps.length) (body : BodyOk P w K mg base k (He.ga K x) x st N sp) : C8.Cal P w K mg base (k + 1) x sp [] := by
  obtain ⟨fd, F⟩ := hd
  exact ⟨_, fd, ps, [], F.ok S len (fun cdv A outer s H vs Q E hr h => by
    obtain ⟨t, h1, h2⟩ := body cdv A outer s H vs Q E hr h
    exact ⟨t, PSs.nox h1, h2⟩), hm, F.kp, F.bindsN hb, .nil⟩
theorem met_of {C : Addr} {x q : Str} {st : Stmt} {N ps : List Str} {k : Nat} {sp : Sp} (c : Cls K C) (me : Meth K C x (He.ma K C x)) (hd : ∃ fd, FunD K x q (defArgs st) (defBody st) (defScope st) [] [] (He.ma K C x) fd) (S : FnScope N ps (defScope st))
    (hb : ∀ (kV doc pm : Value) (an : Option Addr) (cdv ct : Value) (us : List Value), us.length = ps.length → bindArgs (PySem.W.fnOf x q (defArgs st) (defBody st) (defScope st) .none kV doc pm an cdv ct) ⟨us, []⟩ = pure (ps.zip us))
    (len : ∀ vs H Q E, sp vs H Q E → vs.length = ps.length) (body : BodyOk P w K mg base k (He.ma K C x) q st N sp) : C8.Met P w K mg base (k + 1) C x sp [] := by
  obtain ⟨fd, F⟩ := hd
  exact ⟨_, fd, ps, [], c, me, F.ok S len (fun cdv A outer s H vs Q E hr h => by
    obtain ⟨t, h1, h2⟩ := body cdv A outer s H vs Q E hr h
    exact ⟨t, PSs.nox h1, h2⟩), F.bindsN hb, .nil⟩
theorem mak_of {y : Str} {q : Str} {st : Stmt} {N ps : List Str} {k : Nat} {sp : Sp} (mk : Mk K (He.ga K y) (He.ma K (He.ga K y) "__init__")) (hm : mg y = some (.ref (He.ga K y))) (hd : ∃ fd, FunD K "__init__" q (defArgs st) (defBody st) (defScope st) [] [] (He.ma K (He.ga K y) "__init__") fd) (S : FnScope N ps (defScope st))
    (hb : ∀ (kV doc pm : Value) (an : Option Addr) (cdv ct : Value) (us : List Value), us.length = ps.length → bindArgs (PySem.W.fnOf "__init__" q (defArgs st) (defBody st) (defScope st) .none kV doc pm an cdv ct) ⟨us, []⟩ = pure (ps.zip us))
    (len : ∀ vs H Q E, sp vs H Q E → vs.length = ps.length) (body : BodyOk P w K mg base k (He.ma K (He.ga K y) "__init__") q st N sp) : C8.Mak P w K mg base (k + 1) y (He.ga K y) sp [] := by
  obtain ⟨fd, F⟩ := hd
  exact ⟨_, fd, ps, [], mk, F.ok S len (fun cdv A outer s H vs Q E hr h => by
    obtain ⟨t, h1, h2⟩ := body cdv A outer s H vs Q E hr h
    exact ⟨t, PSs.nox h1, h2⟩), hm, F.bindsN hb, .nil⟩
end
end K21
/-! ## K21Base -/
set_option Elab.async false
set_option linter.all false
set_option maxRecDepth 100000
set_option maxHeartbeats 4000000
namespace K21
open PySem PySem.Spec PyProof.Rows L2
/-! heaps: what is kept but at some places -/
def Keep (S : List Addr) (H H' : Hp) : Prop := ∀ b o, b ∉ S → H b = some o → H' b = some o
theorem Keep.refl (S : List Addr) (H : Hp) : Keep S H H := fun _ _ _ h => h
theorem Keep.trans {S : List Addr} {H H1 H2 : Hp} (a : Keep S H H1) (b : Keep S H1 H2) : Keep S H H2 := fun c o n h => b c o n (a c o n h)
theorem Keep.mono {S S' : List Addr} {H H' : Hp} (a : Keep S H H') (h : ∀ b, b ∈ S → b ∈ S') : Keep S' H H' := fun c o n e => a c o (fun z => n (h c z)) e
theorem Keep.of_same {S : List Addr} {H H' : Hp} (a : Same H H') : Keep S H H' := fun c o _ e => a c o e
theorem Keep.same {H H' : Hp} (a : Keep [] H H') : Same H H' := fun c o e => a c o (by simp) e
theorem Keep.new {S : List Addr} {H : Hp} {p : Addr} {o : HO} (np : H p = none) : Keep S H (upd H p o) := fun b u _ e => by
  rw [upd_ne (ne_of_none e np)]
  exact e
theorem Keep.put {S : List Addr} {H : Hp} {p : Addr} {o : HO} (m : p ∈ S) : Keep S H (upd H p o) := fun b u n e => by
  rw [upd_ne (fun z => n (by rw [z]; exact m))]
  exact e
theorem Keep.one {H H' : Hp} {p b : Addr} {o : HO} (a : Keep [p] H H') (n : b ≠ p) (e : H b = some o) : H' b = some o := a b o (by simp [n]) e
theorem same_new {H : Hp} {p : Addr} {o : HO} (np : H p = none) : Same H (upd H p o) := fun b u e => by
  rw [upd_ne (ne_of_none e np)]
  exact e
/-- a new object, the heap by what is known of it -/
theorem newG {C : Hp → Prop} {H : Hp} {p : Addr} {o : HO} (np : H p = none) (k : ∀ H1, Same H H1 → H1 p = some o → C H1) : C (upd H p o) := k _ (same_new np) upd_same
theorem new_same {H H1 : Hp} {p : Addr} {o : HO} (h : upd H p o = H1) (np : H p = none) : Same H H1 := by
  rw [← h]
  exact same_new np
theorem new_at {H H1 : Hp} {p : Addr} {o : HO} (h : upd H p o = H1) : H1 p = some o := by
  rw [← h]
  exact upd_same
theorem fresh_of {H H' : Hp} (s : Same H H') {p : Addr} (e : H' p = none) : H p = none := s.free e
theorem fresh_keep {S : List Addr} {H H' : Hp} (s : Keep S H H') {p : Addr} (n : p ∉ S) (e : H' p = none) : H p = none := by
  cases q : H p with
  | none => rfl
  | some o =>
    rw [s p o n q] at e
    cases e
theorem ne_new {H : Hp} {a p : Addr} {o : HO} (h : H a = some o) (np : H p = none) : a ≠ p := ne_of_none h np
theorem SqT.keep {K : PySem.W.Frag} {S : List Addr} {H H' : Hp} {a : Addr} {xs : List V} (k : Keep S H H') (n : a ∉ S) (h : SqT K H a xs) : SqT K H' a xs := by
  rcases h with (h | ⟨o, h⟩) | h
  · exact .inl (.inl (k _ _ n h))
  · exact .inl (.inr ⟨o, k _ _ n h⟩)
  · exact .inr h
theorem SqT.same {K : PySem.W.Frag} {H H' : Hp} {a : Addr} {xs : List V} (e : Same H H') (h : SqT K H a xs) : SqT K H' a xs := SqT.keep (S := []) (Keep.of_same e) (by simp) h
theorem sz {n : Nat} (h : n ≤ 1000000) : n ≤ sizeLine := Nat.le_trans h (by rw [sizeLine_eq]; decide)
theorem szl {n : Nat} (h : n ≤ 1000000) : n < sizeLine := Nat.lt_of_le_of_lt h (by rw [sizeLine_eq]; decide)
/-! texts as lists of signs -/
abbrev S (l : List Nat) : Str := ⟨l.toArray⟩
abbrev cl (x : Str) : List Nat := x.cps.toList
theorem S_cl (x : Str) : S (cl x) = x := SX.S_tl x
theorem cl_S (l : List Nat) : cl (S l) = l := rfl
theorem S_inj {a b : List Nat} (h : S a = S b) : a = b := SX.S_inj h
theorem S_len (a : List Nat) : (S a).length = a.length := SX.S_len a
theorem S_cat (a b : List Nat) : S a ++ S b = S (a ++ b) := SX.S_cat a b
theorem str_eq (x : Str) : ∃ l, x = S l := ⟨cl x, (S_cl x).symm⟩
theorem dec_S {a b : List Nat} : decide (V.str (S a) = V.str (S b)) = decide (a = b) := by
  by_cases h : a = b
  · rw [h, decide_eq_true rfl, decide_eq_true rfl]
  · rw [decide_eq_false h, decide_eq_false (fun z => h (S_inj (V.str.inj z)))]
theorem iteDT {p A B : Prop} [Decidable p] (h : p) (a : A) : if decide p = true then A else B := by
  rw [if_pos (decide_eq_true h)]
  exact a
theorem iteDF {p A B : Prop} [Decidable p] (h : ¬ p) (b : B) : if decide p = true then A else B := by
  rw [if_neg (fun z => h (of_decide_eq_true z))]
  exact b
theorem iteNF {p A B : Prop} [Decidable p] (h : p) (b : B) : if (!decide p) = true then A else B := by
  rw [decide_eq_true h]
  exact iteF b
theorem iteNT {p A B : Prop} [Decidable p] (h : ¬ p) (a : A) : if (!decide p) = true then A else B := by
  rw [decide_eq_false h]
  exact iteT a
theorem iteB {c : Bool} {A B : Prop} (h1 : c = true → A) (h2 : c = false → B) : if c = true then A else B := by
  cases c with
  | true => exact iteT (h1 rfl)
  | false => exact iteF (h2 rfl)
theorem iteNB {c : Bool} {A B : Prop} (h1 : c = false → A) (h2 : c = true → B) : if (!c) = true then A else B := by
  cases c with
  | true => exact iteF (h2 rfl)
  | false => exact iteT (h1 rfl)
theorem yes_in {σ : L2.St} {H : Hp} {te : TE} {C : V → Hp → Prop} {Cf : Hp → Prop} (h : te σ H C) : tYes σ H (fun b H3 => if b = true then te σ H3 C else Cf H3) := by
  show (if true = true then te σ H C else Cf H)
  exact iteT h
theorem cps_at {l : List Nat} {i d : Nat} (h : (S l).cps[i]? = some d) : d = l.getD i 0 := by
  have h5 : l[i]? = some d := by simpa using h
  rw [List.getD_eq_getElem?_getD, h5]
  rfl
/-- what is the same behind an expression's ways -/
theorem te_w {te : TE} {σ : L2.St} {H : Hp} {Q : VK} (v : V) (Pr : Hp → Prop) (key : ∀ H3, Pr H3 → Q v H3) (h : ∀ Q' : VK, (∀ H3, Pr H3 → Q' v H3) → te σ H Q') : te σ H Q := h Q key
/-! comprehensions whose element changes nothing: each item kept by R -/
theorem lc_pure {J : It} {n : Nat} {G : Hp → Prop} {Y : Nat → Hp → V → Hp → Prop} (w : Walk J n G Y) {g : TG} {tt : TT} {te : TE} {vs : List Nat} {σ : L2.St} {H1 : Hp} {D : Addr} {Qd : Hp → Prop} (hD : H1 D = none) (hn : n ≤ 1000000)
    (R : Nat → V → Hp → Prop) (hG : ∀ H, Same H1 H → G H) (hR : ∀ i y H H', (∃ acc, H D = some (.lst acc)) → Keep [D] H H' → R i y H → R i y H')
    (hs : ∀ i x H H' (C : V → Hp → Prop) (Cf : Hp → Prop), i < n → Same H1 H → (∃ acc, H D = some (.lst acc)) → Y i H x H' → (∀ y H4, Same H H4 → R i y H4 → C y H4) →
      g x (wipe σ vs) H' fun σ2 H2 => wipe σ2 vs = wipe σ vs ∧ tt σ2 H2 fun b H3 => if b = true then te σ2 H3 C else Cf H3)
    (hd : ∀ H ys, Same H1 H → ys.length = n → H D = some (.lst ys) → (∀ i y, ys[i]? = some y → R i y H) → Qd H) :
    ∃ W : Nat → Nat → Hp → Prop, (∃ m, W 0 m (upd H1 D (.lst []))) ∧ ∀ i m H, W i m H →
      (J.stop i H ∧ Qd H) ∨ (J.go i H ∧ ∃ Nx : Hp → Prop, (∀ H', Nx H' → ∃ m', m' < m ∧ W (i + 1) m' H') ∧ ∀ x H', J.yld i H x H' → g x (wipe σ vs) H' fun σ2 H2 => wipe σ2 vs = wipe σ vs ∧ tt σ2 H2 fun b H3 =>
        if b = true then te σ2 H3 fun y H4 => ∃ acc, H4 D = some (.lst acc) ∧ acc.length < sizeLine ∧ Nx (upd H4 D (.lst (acc ++ [y]))) else Nx H3) := by
  refine lc_it w (fun i H => Same H1 H ∧ ∃ ys, ys.length = i ∧ H D = some (.lst ys) ∧ ∀ i y, ys[i]? = some y → R i y H) ⟨same_new hD, [], rfl, upd_same, fun i y h => by simp at h⟩ (fun i H _ h => hG H h.1) (fun i x H H' hi h y => ?_) (fun H h => ?_)
  · obtain ⟨s1, ys, hl, e, hr⟩ := h
    refine hs i x H H' _ _ hi s1 ⟨ys, e⟩ y fun y H4 s2 r => ?_
    have k1 : Keep [D] H (upd H4 D (.lst (ys ++ [y]))) := (Keep.of_same s2).trans (Keep.put (by simp))
    refine ⟨ys, s2 _ _ e, szl (by omega), fun b o eb => ?_, ys ++ [y], by simp [hl], upd_same, fun j z hz => ?_⟩
    · exact k1 b o (by simp [ne_of_none eb hD]) (s1 _ _ eb)
    · by_cases hj : j < ys.length
      · rw [List.getElem?_append_left hj] at hz
        exact hR j z H _ ⟨ys, e⟩ k1 (hr j z hz)
      · have hj2 : j = ys.length := by
          have := (List.getElem?_eq_some_iff.mp hz).1
          simp at this
          omega
        subst hj2
        simp at hz
        subst hz
        rw [hl]
        exact hR i y H4 _ ⟨ys, s2 _ _ e⟩ (Keep.put (by simp)) r
  · obtain ⟨s1, ys, hl, e, hr⟩ := h
    exact hd H ys s1 hl e hr
/-- .. whose items are values that lean on no heap -/
theorem lc_vals {J : It} {n : Nat} {G : Hp → Prop} {Y : Nat → Hp → V → Hp → Prop} (w : Walk J n G Y) {g : TG} {tt : TT} {te : TE} {vs : List Nat} {σ : L2.St} {H1 : Hp} {D : Addr} {Qd : Hp → Prop} (hD : H1 D = none) (hn : n ≤ 1000000)
    (f : Nat → V) (hG : ∀ H, Same H1 H → G H)
    (hs : ∀ i x H H' (C : V → Hp → Prop) (Cf : Hp → Prop), i < n → Same H1 H → Y i H x H' → (∀ H4, Same H H4 → C (f i) H4) →
      g x (wipe σ vs) H' fun σ2 H2 => wipe σ2 vs = wipe σ vs ∧ tt σ2 H2 fun b H3 => if b = true then te σ2 H3 C else Cf H3)
    (hd : ∀ H, Same H1 H → H D = some (.lst ((List.range n).map f)) → Qd H) :
    ∃ W : Nat → Nat → Hp → Prop, (∃ m, W 0 m (upd H1 D (.lst []))) ∧ ∀ i m H, W i m H →
      (J.stop i H ∧ Qd H) ∨ (J.go i H ∧ ∃ Nx : Hp → Prop, (∀ H', Nx H' → ∃ m', m' < m ∧ W (i + 1) m' H') ∧ ∀ x H', J.yld i H x H' → g x (wipe σ vs) H' fun σ2 H2 => wipe σ2 vs = wipe σ vs ∧ tt σ2 H2 fun b H3 =>
        if b = true then te σ2 H3 fun y H4 => ∃ acc, H4 D = some (.lst acc) ∧ acc.length < sizeLine ∧ Nx (upd H4 D (.lst (acc ++ [y]))) else Nx H3) := by
  refine lc_pure w hD hn (fun i y _ => y = f i) hG (fun i y H H' _ _ h => h) (fun i x H H' C Cf hi s1 _ y k => hs i x H H' C Cf hi s1 y fun H4 s2 => k _ _ s2 rfl) fun H ys s1 hl e hr => hd H s1 ?_
  have ey : ys = (List.range n).map f := by
    refine List.ext_getElem? fun i => ?_
    rw [List.getElem?_map]
    by_cases hi : i < n
    · rw [List.getElem?_range hi]
      have h1 : i < ys.length := by omega
      rw [List.getElem?_eq_getElem h1]
      exact congrArg some (hr i _ (List.getElem?_eq_getElem h1))
    · rw [List.getElem?_eq_none (by omega), List.getElem?_eq_none (by simp; omega)]
      rfl
  rw [← ey]
  exact e
theorem range_map {α β : Type} (l : List α) (f : α → β) (d : α) : (List.range l.length).map (fun i => f (l.getD i d)) = l.map f := by
  refine List.ext_getElem? fun i => ?_
  rw [List.getElem?_map, List.getElem?_map]
  by_cases hi : i < l.length
  · rw [List.getElem?_range hi, List.getElem?_eq_getElem hi]
    simp [hi]
  · rw [List.getElem?_eq_none (by simp; omega), List.getElem?_eq_none (by omega)]
    rfl
end K21
/-! ## WA -/
set_option Elab.async false
set_option linter.all false
set_option maxRecDepth 100000
set_option maxHeartbeats 4000000
namespace K21
open PySem PySem.Spec PyProof.Rows L2 C8
local macro_rules | `(tactic| walk_at "adv") => `(tactic| repeat (first | refine ⟨_, rfl, ?_⟩ | refine ⟨rfl, ?_⟩ | refine ⟨_, _, rfl, rfl, ?_⟩ | refine iteT ?_ | refine iteF ?_))

def letters : List Nat := cl "abcdefghijklmnopqrstuvwxyz"
def nameSigns : List Nat := cl "abcdefghijklmnopqrstuvwxyz0123456789_"
def isRegM : List Nat → Bool
  | [a, d] => decide (a = 114) && decide (d ∈ cl "01234567")
  | _ => false
def isNameM (l : List Nat) : Bool := decide (1 ≤ l.length ∧ l.length ≤ 12) && (decide (l.getD 0 0 ∈ letters) && (!isRegM l && l.all fun c => decide (c ∈ nameSigns)))
def digM (l : List Nat) (z : Str) (m : Int) : Bool := decide (1 ≤ l.length ∧ (l.length : Int) ≤ m) && l.all fun c => decide (c ∈ cl z)

section
variable {P : Program} {w : World} {K : PySem.W.Frag} {mg : Str → Option Value} {base : Heap}
abbrev N_is_integer : List Str := ["value"]
theorem sc_is_integer : FnScope N_is_integer ["value"] (defScope s_is_integer) := ⟨rfl, rfl, rfl, by decide +kernel, rfl, by decide +kernel, by decide +kernel⟩
def sp_is_integer : Sp := fun vs H Q _ => ∃ i : Int, vs = [.int i] ∧ Q (.bl true) H
theorem cal_is_integer (T : Tx w K mg) : C8.Cal P w K mg base 1 "is_integer" sp_is_integer [] := by
  refine cal_of (st := s_is_integer) (ps := ["value"]) T.d_is_integer T.m_is_integer sc_is_integer (fun _ _ _ _ _ _ us hl => match us, hl with | [_], _ => rfl) (fun vs H Q E h => ?_) (fun cdv A outer s H vs Q E hr h => ?_)
  · obtain ⟨i, rfl, _⟩ := h
    rfl
  · obtain ⟨i, rfl, q⟩ := h
    refine ⟨_, (pss_one (ps_ret (pe_and (pe_callB call_isi (by rfl) T.f_isinstance (by decide +kernel) (pa_cons (pv 0) (pa_cons (pe_bltn (v := .ty "int") (by rfl) T.f_int (by decide +kernel) rfl) pa_nil))) (pe_one (pe_not (pe_callB call_isi (by rfl) T.f_isinstance (by decide +kernel) (pa_cons (pv 0) (pa_cons (pe_bltn (v := .ty "bool") (by rfl) T.f_bool (by decide +kernel) rfl) pa_nil)))))))), ?_⟩
    refine ⟨_, rfl, ?_⟩
    refine ⟨_, _, _, _, _, rfl, .ty _, .base (.int i), kit_ty (b := "int") (r := true) (by decide +kernel), _, rfl, iteT ?_⟩
    refine ⟨_, rfl, _, _, _, _, _, rfl, .ty _, .base (.int i), kit_ty (b := "bool") (r := false) (by decide +kernel), _, rfl, ?_⟩
    exact q
abbrev N_is_count : List Str := ["value"]
theorem sc_is_count : FnScope N_is_count ["value"] (defScope s_is_count) := ⟨rfl, rfl, rfl, by decide +kernel, rfl, by decide +kernel, by decide +kernel⟩
def sp_is_count : Sp := fun vs H Q _ => ∃ i : Int, vs = [.int i] ∧ Q (.bl (decide (0 ≤ i))) H
theorem cal_is_count (T : Tx w K mg) : C8.Cal P w K mg base 2 "is_count" sp_is_count [] := by
  have c_is_integer := cal_is_integer (P := P) (base := base) T
  refine cal_of (st := s_is_count) (ps := ["value"]) T.d_is_count T.m_is_count sc_is_count (fun _ _ _ _ _ _ us hl => match us, hl with | [_], _ => rfl) (fun vs H Q E h => ?_) (fun cdv A outer s H vs Q E hr h => ?_)
  · obtain ⟨i, rfl, _⟩ := h
    rfl
  · obtain ⟨i, rfl, q⟩ := h
    refine ⟨_, (pss_one (ps_ret (pe_and (pe_c c_is_integer hr (by decide) (by rfl) (pa_cons (pv 0) pa_nil)) (pe_one (pe_cmpR op_ge (pv 0) pe_int (nomark _)))))), ?_⟩
    refine ⟨_, rfl, _, rfl, _, rfl, iteT ?_⟩
    refine ⟨_, rfl, _, _, rfl, rfl, ?_⟩
    exact q
abbrev N_is_word : List Str := ["value"]
theorem sc_is_word : FnScope N_is_word ["value"] (defScope s_is_word) := ⟨rfl, rfl, rfl, by decide +kernel, rfl, by decide +kernel, by decide +kernel⟩
def sp_is_word : Sp := fun vs H Q _ => ∃ i : Int, vs = [.int i] ∧ Q (.bl (decide (0 ≤ i ∧ i < 65536))) H
theorem cal_is_word (T : Tx w K mg) : C8.Cal P w K mg base 3 "is_word" sp_is_word [] := by
  have c_is_count := cal_is_count (P := P) (base := base) T
  refine cal_of (st := s_is_word) (ps := ["value"]) T.d_is_word T.m_is_word sc_is_word (fun _ _ _ _ _ _ us hl => match us, hl with | [_], _ => rfl) (fun vs H Q E h => ?_) (fun cdv A outer s H vs Q E hr h => ?_)
  · obtain ⟨i, rfl, _⟩ := h
    rfl
  · obtain ⟨i, rfl, q⟩ := h
    refine ⟨_, (pss_one (ps_ret (pe_and (pe_c c_is_count hr (by decide) (by rfl) (pa_cons (pv 0) pa_nil)) (pe_one (pe_cmpR op_lt (pv 0) (pe_gc (by rfl) T.v_MOST_WORD) (nomark _)))))), ?_⟩
    refine ⟨_, rfl, _, rfl, _, rfl, ite2 (fun h => ?_) fun h => ?_⟩
    · refine ⟨_, rfl, _, _, rfl, rfl, ?_⟩
      have h0 : 0 ≤ i := of_decide_eq_true h
      have e : decide (0 ≤ i ∧ i < 65536) = decide (i < 65536) := decide_eq_decide.mpr ⟨fun z => z.2, fun z => ⟨h0, z⟩⟩
      rw [e] at q
      exact q
    · have e : decide (0 ≤ i ∧ i < 65536) = false := decide_eq_false fun z => h (decide_eq_true z.1)
      rw [e] at q
      exact q
abbrev N_is_list : List Str := ["value"]
theorem sc_is_list : FnScope N_is_list ["value"] (defScope s_is_list) := ⟨rfl, rfl, rfl, by decide +kernel, rfl, by decide +kernel, by decide +kernel⟩
def sp_is_list (K : PySem.W.Frag) : Sp := fun vs H Q _ => ∃ a : Addr, vs = [.ref a] ∧ (TyX K H (.ref a) (.type "list") ∨ TyX K H (.ref a) (.type "tuple")) ∧ ∀ H', Same H H' → Q (.bl true) H'
theorem tyx_same {K : PySem.W.Frag} {H H' : Hp} {v : V} {t : Value} (s : Same H H') (h : TyX K H v t) : TyX K H' v t := by
  cases h with
  | base b =>
    refine .base ?_
    cases b with
    | non => exact .non
    | bl x => exact .bl x
    | int i => exact .int i
    | str x => exact .str x
    | flt x => exact .flt x
    | lst e => exact .lst (s _ _ e)
    | frz e => exact .frz (s _ _ e)
    | tup e => exact .tup (s _ _ e)
    | dK e => exact .dK (s _ _ e)
    | dT e => exact .dT (s _ _ e)
    | ins e c a n k m => exact .ins (s _ _ e) c a n k m
  | byt b => exact .byt b
  | set e => exact .set (s _ _ e)
  | kList e c => exact .kList e c
  | kTuple e c => exact .kTuple e c
  | kDict e c => exact .kDict e c
  | fTuple e => exact .fTuple (s _ _ e)
  | fDict e => exact .fDict (s _ _ e)
theorem cal_is_list (T : Tx w K mg) : C8.Cal P w K mg base 1 "is_list" (sp_is_list K) [] := by
  refine cal_of (st := s_is_list) (ps := ["value"]) T.d_is_list T.m_is_list sc_is_list (fun _ _ _ _ _ _ us hl => match us, hl with | [_], _ => rfl) (fun vs H Q E h => ?_) (fun cdv A outer s H vs Q E hr h => ?_)
  · obtain ⟨i, rfl, _⟩ := h
    rfl
  · obtain ⟨a, rfl, t, q⟩ := h
    refine ⟨_, (pss_one (ps_ret (pe_callB call_isiT (by rfl) T.f_isinstance (by decide +kernel) (pa_cons (pv 0) (pa_cons (pe_tup (pa_cons (pe_bltn (v := .ty "list") (by rfl) T.f_list (by decide +kernel) rfl) (pa_cons (pe_bltn (v := .ty "tuple") (by rfl) T.f_tuple (by decide +kernel) rfl) pa_nil))) pa_nil))))), ?_⟩
    refine ⟨_, rfl, ?_⟩
    refine ⟨sz (by show 2 ≤ 1000000; decide), fun p np => newG np fun H1 s1 e1 => ?_⟩
    rcases t with t | t
    · exact ⟨_, p, _, _, _, true, rfl, e1, .cons (.ty _) (.cons (.ty _) .nil), tyx_same s1 t, kitAny_cons (b := true) (kit_ty (a := "list") (b := "list") (by decide +kernel)) (fun z => by cases z) (fun _ => rfl), q _ s1⟩
    · exact ⟨_, p, _, _, _, true, rfl, e1, .cons (.ty _) (.cons (.ty _) .nil), tyx_same s1 t, kitAny_cons (b := false) (kit_ty (a := "tuple") (b := "list") (by decide +kernel)) (fun _ => kitAny_cons (b := true) (kit_ty (a := "tuple") (b := "tuple") (by decide +kernel)) (fun z => by cases z) (fun _ => rfl)) (fun z => by cases z), q _ s1⟩
abbrev N_want_text : List Str := ["value"]
theorem sc_want_text : FnScope N_want_text ["value"] (defScope s_want_text) := ⟨rfl, rfl, rfl, by decide +kernel, rfl, by decide +kernel, by decide +kernel⟩
def sp_want_text : Sp := fun vs H Q _ => ∃ z : Str, vs = [.str z] ∧ Q (.str z) H
theorem cal_want_text (T : Tx w K mg) : C8.Cal P w K mg base 1 "want_text" sp_want_text [] := by
  refine cal_of (st := s_want_text) (ps := ["value"]) T.d_want_text T.m_want_text sc_want_text (fun _ _ _ _ _ _ us hl => match us, hl with | [_], _ => rfl) (fun vs H Q E h => ?_) (fun cdv A outer s H vs Q E hr h => ?_)
  · obtain ⟨i, rfl, _⟩ := h
    rfl
  · obtain ⟨z, rfl, q⟩ := h
    refine ⟨_, (pss_cons (ps_if (pt_not (pt_val (pe_callB call_isi (by rfl) T.f_isinstance (by decide +kernel) (pa_cons (pv 0) (pa_cons (pe_bltn (v := .ty "str") (by rfl) T.f_str (by decide +kernel) rfl) pa_nil)))))
        (pss_one ps_never)
        pss_nil)
      (pss_one (ps_ret (pv 0)))), ?_⟩
    refine ⟨_, rfl, _, _, _, _, _, rfl, .ty _, .base (.str z), kit_ty (b := "str") (r := true) (by decide +kernel), _, rfl, iteF ?_⟩
    exact ⟨_, rfl, q⟩
abbrev N_is_register_word : List Str := ["word"]
theorem sc_is_register_word : FnScope N_is_register_word ["word"] (defScope s_is_register_word) := ⟨rfl, rfl, rfl, by decide +kernel, rfl, by decide +kernel, by decide +kernel⟩
def sp_is_register_word : Sp := fun vs H Q _ => ∃ l : List Nat, vs = [.str (S l)] ∧ l.length ≤ 100000 ∧ Q (.bl (isRegM l)) H
theorem cal_is_register_word (T : Tx w K mg) : C8.Cal P w K mg base 1 "is_register_word" sp_is_register_word [] := by
  refine cal_of (st := s_is_register_word) (ps := ["word"]) T.d_is_register_word T.m_is_register_word sc_is_register_word (fun _ _ _ _ _ _ us hl => match us, hl with | [_], _ => rfl) (fun vs H Q E h => ?_) (fun cdv A outer s H vs Q E hr h => ?_)
  · obtain ⟨l, rfl, _⟩ := h
    rfl
  · obtain ⟨l, rfl, hl, q⟩ := h
    refine ⟨_, (pss_one (ps_ret (pe_and (pe_cmpR op_eq (pe_callB call_len_str (by rfl) T.f_len (by decide +kernel) (pa_cons (pv 0) pa_nil)) pe_int (nomark _)) (pe_and (pe_cmpR op_eq (pe_ix ix_str (pv 0) pe_int (fun _ _ => rfl)) pe_str (nomark _)) (pe_one (pe_cmpR op_in_sign (pe_ix ix_str (pv 0) pe_int (fun _ _ => rfl)) pe_str (by rfl))))))), ?_⟩
    refine ⟨_, rfl, _, rfl, by rw [S_len]; exact sz (by omega), rfl, _, rfl, ite2 (fun h => ?_) fun h => ?_⟩
    · have h2 : l.length = 2 := by
        have := V.int.inj (of_decide_eq_true h)
        rw [S_len] at this
        omega
      obtain ⟨a, b, rfl⟩ : ∃ a b, l = [a, b] := by
        match l, h2 with
        | [a, b], _ => exact ⟨a, b, rfl⟩
      refine ⟨_, rfl, _, _, a, rfl, rfl, sz (by show 2 ≤ 1000000; decide), atI_nat (j := 0) rfl, rfl, _, rfl, ite2 (fun h => ?_) fun h => ?_⟩
      · refine ⟨_, rfl, _, _, b, rfl, rfl, sz (by show 2 ≤ 1000000; decide), atI_nat (j := 1) rfl, _, _, rfl, rfl, ?_⟩
        have ea : a = 114 := by
          have e : S [a] = S [114] := V.str.inj (of_decide_eq_true h)
          exact (List.cons.inj (S_inj e)).1
        have e : isRegM [a, b] = decide (b ∈ cl "01234567") := by
          show (decide (a = 114) && decide (b ∈ cl "01234567")) = _
          rw [decide_eq_true ea, Bool.true_and]
        rw [e] at q
        exact q
      · have e : isRegM [a, b] = false := by
          show (decide (a = 114) && decide (b ∈ cl "01234567")) = _
          rw [decide_eq_false (fun z => h (by rw [z]; exact decide_eq_true rfl)), Bool.false_and]
        rw [e] at q
        exact q
    · have e : isRegM l = false := by
        unfold isRegM
        split
        · exact absurd rfl h
        · rfl
      rw [e] at q
      exact q
abbrev N_register_in : List Str := ["word"]
theorem sc_register_in : FnScope N_register_in ["word"] (defScope s_register_in) := ⟨rfl, rfl, rfl, by decide +kernel, rfl, by decide +kernel, by decide +kernel⟩
def sp_register_in : Sp := fun vs H Q _ => ∃ d : Nat, vs = [.str (S [114, 48 + d])] ∧ d < 8 ∧ Q (.int d) H
theorem reg_digit : ∀ d : Nat, d < 8 → isRegM [114, 48 + d] = true ∧ PySem.intText? (S [48 + d]) = some (d : Int) := by decide +kernel
theorem cal_register_in (T : Tx w K mg) : C8.Cal P w K mg base 2 "register_in" sp_register_in [] := by
  have c_is_register_word := cal_is_register_word (P := P) (base := base) T
  refine cal_of (st := s_register_in) (ps := ["word"]) T.d_register_in T.m_register_in sc_register_in (fun _ _ _ _ _ _ us hl => match us, hl with | [_], _ => rfl) (fun vs H Q E h => ?_) (fun cdv A outer s H vs Q E hr h => ?_)
  · obtain ⟨l, rfl, _⟩ := h
    rfl
  · obtain ⟨d, rfl, hd, q⟩ := h
    refine ⟨_, (pss_one (ps_ret (pe_ifExp (pt_val (pe_c c_is_register_word hr (by decide) (by rfl) (pa_cons (pv 0) pa_nil))) (pe_callTy call_int_str (by rfl) T.f_int (by decide +kernel) (pa_cons (pe_ix ix_str (pv 0) pe_int (fun _ _ => rfl)) pa_nil)) pe_non))), ?_⟩
    obtain ⟨e1, e2⟩ := reg_digit d hd
    refine ⟨_, rfl, _, rfl, by show 2 ≤ 100000; decide, _, rfl, ?_⟩
    rw [e1]
    refine iteT ⟨_, rfl, _, _, 48 + d, rfl, rfl, sz (by show 2 ≤ 1000000; decide), atI_nat (j := 1) rfl, S [48 + d], (d : Int), rfl, e2, by show 1 ≤ 640; decide, ?_⟩
    exact q
abbrev N_is_name_text : List Str := ["word", "sign"]
theorem sc_is_name_text : FnScope N_is_name_text ["word"] (defScope s_is_name_text) := ⟨rfl, rfl, rfl, by decide +kernel, rfl, by decide +kernel, by decide +kernel⟩
def sp_is_name_text : Sp := fun vs H Q _ => ∃ l : List Nat, vs = [.str (S l)] ∧ l.length ≤ 100000 ∧ ∀ H', Same H H' → Q (.bl (isNameM l)) H'
theorem cal_is_name_text (T : Tx w K mg) : C8.Cal P w K mg base 2 "is_name_text" sp_is_name_text [] := by
  have c_is_register_word := cal_is_register_word (P := P) (base := base) T
  refine cal_of (st := s_is_name_text) (ps := ["word"]) T.d_is_name_text T.m_is_name_text sc_is_name_text (fun _ _ _ _ _ _ us hl => match us, hl with | [_], _ => rfl) (fun vs H Q E h => ?_) (fun cdv A outer s H vs Q E hr h => ?_)
  · obtain ⟨l, rfl, _⟩ := h
    rfl
  · obtain ⟨l, rfl, hl, q⟩ := h
    refine ⟨_, (pss_cons (ps_if (PW.pt (pw_or (pt_not (pt_chain op_le op_le pe_int (pe_callB call_len_str (by rfl) T.f_len (by decide +kernel) (pa_cons (pv 0) pa_nil)) (pe_gc (by rfl) T.v_MOST_NAME))) (pw_or (pt_cmpR op_notIn_sign (pe_ix ix_str (pv 0) pe_int (fun _ _ => rfl)) (pe_gc (by rfl) T.v_SMALL_LETTERS) (by rfl)) (pw_or1 (pt_val (pe_c c_is_register_word hr (by decide) (by rfl) (pa_cons (pv 0) pa_nil)))))))
        (pss_one (ps_ret pe_bl))
        pss_nil)
      (pss_one (ps_ret (pe_callB (cr_all rfl) (by rfl) T.f_all (by decide +kernel) (pa_cons (pe_lc (own := [("sign", 1)]) (g := gName 1) (tt := tYes) rfl sc_is_name_text.nd (pi_str (pv 0)) (blkOk_by (own := [("sign", 1)]) (N := N_is_name_text) (sc := defScope s_is_name_text) (by decide +kernel)) (fun _ _ _ _ _ => pg_name (i := 1) sc_is_name_text.nd rfl (Or.inl rfl)) (fun _ _ _ _ _ => pts_nil) (fun _ _ _ _ _ => (pe_cmpR op_in_sign (pv 1) (pe_gc (by rfl) T.v_NAME_SIGNS) (by rfl)))) pa_nil))))), ?_⟩
    have hS : ((S l).length : Int) = (l.length : Int) := by rw [S_len]
    refine ⟨_, rfl, _, rfl, by rw [S_len]; exact sz (by omega), _, _, rfl, rfl, _, rfl, ?_⟩
    by_cases h1 : 1 ≤ l.length
    · refine iteDT (by rw [hS]; omega) ⟨_, _, rfl, rfl, _, rfl, ?_⟩
      by_cases h2 : l.length ≤ 12
      · refine iteNF (by rw [hS]; omega) ?_
        obtain ⟨c, r, rfl⟩ : ∃ c r, l = c :: r := by
          cases l with
          | nil => exact absurd h1 (by decide)
          | cons c r => exact ⟨c, r, rfl⟩
        have eN : isNameM (c :: r) = (decide (c ∈ letters) && (!isRegM (c :: r) && (c :: r).all fun c => decide (c ∈ nameSigns))) := by
          show (decide (1 ≤ (c :: r).length ∧ (c :: r).length ≤ 12) && (decide (c ∈ letters) && _)) = _
          rw [decide_eq_true (⟨h1, h2⟩ : 1 ≤ (c :: r).length ∧ (c :: r).length ≤ 12), Bool.true_and]
        rw [eN] at q
        refine ⟨_, rfl, _, _, c, rfl, rfl, by rw [S_len]; exact sz (by omega), atI_nat (j := 0) rfl, _, _, rfl, rfl, _, rfl, ?_⟩
        by_cases h3 : c ∈ letters
        · refine iteNF h3 ⟨_, rfl, _, rfl, hl, _, rfl, ?_⟩
          rw [decide_eq_true h3, Bool.true_and] at q
          refine iteB (fun h4 => ?_) fun h4 => ?_
          · rw [h4] at q
            exact q H (Same.refl H)
          · rw [h4] at q
            refine ⟨_, rfl, _, rfl, fun D hD => ?_⟩
            refine lc_vals walk_str hD (by rw [List.size_toArray]; omega) (fun i => .bl (decide ((c :: r).getD i 0 ∈ nameSigns))) (fun _ _ => trivial) (fun i x H1 H' C Cf hi s1 y k => ?_) (fun H1 s1 e => ?_)
            · obtain ⟨rfl, d, hd, rfl⟩ := y
              refine ⟨rfl, yes_in ⟨_, rfl, d, _, rfl, rfl, ?_⟩⟩
              have ed : d = (c :: r).getD i 0 := cps_at hd
              have := k _ (Same.refl _)
              rw [← ed] at this
              exact this
            · refine ⟨D, (c :: r).map fun c => decide (c ∈ nameSigns), rfl, .inl (.inl ?_), ?_⟩
              · rw [e, List.size_toArray, List.map_map]
                exact congrArg (fun z => some (HO.lst z)) (range_map (c :: r) (fun c => V.bl (decide (c ∈ nameSigns))) 0)
              · have := q H1 s1
                rw [Bool.not_false, Bool.true_and] at this
                rw [List.all_map]
                exact this
        · refine iteNT h3 ?_
          rw [decide_eq_false h3, Bool.false_and] at q
          exact q H (Same.refl H)
      · refine iteNT (by rw [hS]; omega) ?_
        have e : isNameM l = false := by
          unfold isNameM
          rw [decide_eq_false (fun z => h2 z.2), Bool.false_and]
        rw [e] at q
        exact q H (Same.refl H)
    · refine iteDF (by rw [hS]; omega) ⟨_, rfl, iteT ?_⟩
      have e : isNameM l = false := by
        unfold isNameM
        rw [decide_eq_false (fun z => h1 z.1), Bool.false_and]
      rw [e] at q
      exact q H (Same.refl H)
abbrev N_is_digits : List Str := ["word", "digits", "most", "sign"]
theorem sc_is_digits : FnScope N_is_digits ["word", "digits", "most"] (defScope s_is_digits) := ⟨rfl, rfl, rfl, by decide +kernel, rfl, by decide +kernel, by decide +kernel⟩
def sp_is_digits : Sp := fun vs H Q _ => ∃ (l : List Nat) (z : Str) (m : Int), vs = [.str (S l), .str z, .int m] ∧ l.length ≤ 100000 ∧ ∀ H', Same H H' → Q (.bl (digM l z m)) H'
theorem cal_is_digits (T : Tx w K mg) : C8.Cal P w K mg base 1 "is_digits" sp_is_digits [] := by
  refine cal_of (st := s_is_digits) (ps := ["word", "digits", "most"]) T.d_is_digits T.m_is_digits sc_is_digits (fun _ _ _ _ _ _ us hl => match us, hl with | [_, _, _], _ => rfl) (fun vs H Q E h => ?_) (fun cdv A outer s H vs Q E hr h => ?_)
  · obtain ⟨l, z, m, rfl, _⟩ := h
    rfl
  · obtain ⟨l, z, m, rfl, hl, q⟩ := h
    refine ⟨_, (pss_one (ps_ret (pe_and (pe_chain op_le op_le pe_int (pe_callB call_len_str (by rfl) T.f_len (by decide +kernel) (pa_cons (pv 0) pa_nil)) (pv 2)) (pe_one (pe_callB (cr_all rfl) (by rfl) T.f_all (by decide +kernel) (pa_cons (pe_lc (own := [("sign", 3)]) (g := gName 3) (tt := tYes) rfl sc_is_digits.nd (pi_str (pv 0)) (blkOk_by (own := [("sign", 3)]) (N := N_is_digits) (sc := defScope s_is_digits) (by decide +kernel)) (fun _ _ _ _ _ => pg_name (i := 3) sc_is_digits.nd rfl (Or.inl rfl)) (fun _ _ _ _ _ => pts_nil) (fun _ _ _ _ _ => (pe_cmpR op_in_sign (pv 3) (pv 1) (by rfl)))) pa_nil)))))), ?_⟩
    have hS : ((S l).length : Int) = (l.length : Int) := by rw [S_len]
    refine ⟨_, rfl, _, rfl, by rw [S_len]; exact sz (by omega), _, _, rfl, rfl, _, rfl, ?_⟩
    by_cases h1 : 1 ≤ l.length
    · refine iteDT (by rw [hS]; omega) ⟨_, rfl, _, _, rfl, rfl, _, rfl, ?_⟩
      by_cases h2 : (l.length : Int) ≤ m
      · refine iteDT (by rw [hS]; omega) ⟨_, rfl, _, rfl, fun D hD => ?_⟩
        have eN : digM l z m = (l.all fun c => decide (c ∈ cl z)) := by
          unfold digM
          rw [decide_eq_true ⟨h1, h2⟩, Bool.true_and]
        rw [eN] at q
        refine lc_vals walk_str hD (by rw [List.size_toArray]; omega) (fun i => .bl (decide (l.getD i 0 ∈ cl z))) (fun _ _ => trivial) (fun i x H1 H' C Cf hi s1 y k => ?_) (fun H1 s1 e => ?_)
        · obtain ⟨rfl, d, hd, rfl⟩ := y
          refine ⟨rfl, yes_in ⟨_, rfl, _, rfl, d, _, rfl, rfl, ?_⟩⟩
          have ed : d = l.getD i 0 := cps_at hd
          have := k _ (Same.refl _)
          rw [← ed] at this
          exact this
        · refine ⟨D, l.map fun c => decide (c ∈ cl z), rfl, .inl (.inl ?_), ?_⟩
          · rw [e, List.size_toArray, List.map_map]
            exact congrArg (fun z => some (HO.lst z)) (range_map l (fun c => V.bl (decide (c ∈ cl z))) 0)
          · have := q H1 s1
            rw [List.all_map]
            exact this
      · refine iteDF (by rw [hS]; omega) ?_
        have e : digM l z m = false := by
          unfold digM
          rw [decide_eq_false (fun z => h2 z.2), Bool.false_and]
        rw [e] at q
        exact q H (Same.refl H)
    · refine iteDF (by rw [hS]; omega) ⟨_, rfl, iteF ?_⟩
      have e : digM l z m = false := by
        unfold digM
        rw [decide_eq_false (fun z => h1 z.1), Bool.false_and]
      rw [e] at q
      exact q H (Same.refl H)
end
end K21
/-! ## K21Txt -/
set_option Elab.async false
set_option linter.all false
set_option maxRecDepth 100000
set_option maxHeartbeats 4000000
namespace K21
open PySem PySem.Spec PyProof.Rows L2
/-! slices of texts -/
theorem cut_both (l : List Nat) (i j : Nat) : cutS (S l) (some (i : Int)) (some (j : Int)) = S ((l.drop i).take (j - i)) := by
  unfold cutS
  rw [HT.sIx_nat, HT.sIx_nat, S_len]
  show S _ = S _
  refine congrArg S ?_
  show (l.drop (min i l.length)).take (min j l.length - min i l.length) = _
  by_cases hi : i ≤ l.length
  · rw [Nat.min_eq_left hi]
    by_cases hj : j ≤ l.length
    · rw [Nat.min_eq_left hj]
    · rw [Nat.min_eq_right (by omega), List.take_of_length_le (by simp), List.take_of_length_le (by simp; omega)]
  · rw [Nat.min_eq_right (show l.length ≤ i by omega), List.drop_of_length_le (Nat.le_refl _), List.drop_of_length_le (show l.length ≤ i by omega)]
    simp
theorem cut_to (l : List Nat) (j : Nat) : cutS (S l) none (some (j : Int)) = S (l.take j) := by
  have h := cut_both l 0 j
  rw [List.drop_zero, Nat.sub_zero] at h
  rw [← h]
  unfold cutS
  rw [HT.sIx_none, show ((0 : Nat) : Int) = 0 by rfl]
  have : HT.sIx (S l).length 0 (some 0) = 0 := by
    have := HT.sIx_nat (S l).length 0 0
    rw [show ((0 : Nat) : Int) = 0 by rfl] at this
    rw [this]
    exact Nat.zero_min _
  rw [this]
theorem cut_from (l : List Nat) (i : Nat) : cutS (S l) (some (i : Int)) none = S (l.drop i) := by
  have h := cut_both l i l.length
  rw [List.take_of_length_le (by simp)] at h
  rw [← h]
  unfold cutS
  have : HT.sIx (S l).length (S l).length (some (l.length : Int)) = (S l).length := by
    rw [HT.sIx_nat, S_len]
    exact Nat.min_self _
  rw [HT.sIx_none, this]
/-! numbers -/
def sixteens : Str := "0123456789abcdef"
def decimal : Str := "0123456789"
def numM (l : List Nat) : Option Int :=
  if l.take 2 = [48, 120] then (if digM (l.drop 2) sixteens 4 = true then some ((Hx.hexNum (l.drop 2) : Nat) : Int) else none)
  else if digM (if l.take 1 = [45] then l.drop 1 else l) decimal 6 = true then
    some (if l.getD 0 0 = 45 then 0 - ((PySem.NumText.digitsVal (l.drop 1) : Nat) : Int) else ((PySem.NumText.digitsVal l : Nat) : Int)) else none
theorem dec_mem : ∀ c ∈ cl decimal, 48 ≤ c ∧ c ≤ 57 := by decide +kernel
theorem six_mem : ∀ c ∈ cl sixteens, Hx.IsHex c := by
  intro c h
  have : ∀ c ∈ cl sixteens, (48 ≤ c ∧ c ≤ 57) ∨ (97 ≤ c ∧ c ≤ 102) ∨ (65 ≤ c ∧ c ≤ 70) := by decide +kernel
  exact this c h
theorem digM_iff {l : List Nat} {z : Str} {m : Int} (h : digM l z m = true) : 1 ≤ l.length ∧ (l.length : Int) ≤ m ∧ ∀ c ∈ l, c ∈ cl z := by
  unfold digM at h
  obtain ⟨h1, h2⟩ := Bool.and_eq_true_iff.mp h
  have h1 := of_decide_eq_true h1
  exact ⟨h1.1, h1.2, fun c hc => of_decide_eq_true (List.all_eq_true.mp h2 c hc)⟩
theorem int_of {l : List Nat} (h : digM l decimal 6 = true) : PySem.intText? (S l) = some ((PySem.NumText.digitsVal l : Nat) : Int) ∧ l.length ≤ 640 := by
  obtain ⟨h1, h2, h3⟩ := digM_iff h
  refine ⟨SX.int_S (List.all_eq_true.mpr fun c hc => ?_) (fun e => ?_) (by omega), by omega⟩
  · obtain ⟨a, b⟩ := dec_mem c (h3 c hc)
    rw [decide_eq_true a, decide_eq_true b]
    rfl
  · rw [e] at h1
    exact absurd h1 (by decide)
end K21
/-! ## WB -/
set_option Elab.async false
set_option linter.all false
set_option maxRecDepth 100000
set_option maxHeartbeats 4000000
namespace K21
open PySem PySem.Spec PyProof.Rows L2 C8
local macro_rules | `(tactic| walk_at "adv") => `(tactic| repeat (first | refine ⟨_, rfl, ?_⟩ | refine ⟨rfl, ?_⟩ | refine ⟨_, _, rfl, rfl, ?_⟩ | refine iteT ?_ | refine iteF ?_))

theorem str_0x : ("0x" : Str) = S [48, 120] := by decide +kernel
theorem str_minus : ("-" : Str) = S [45] := by decide +kernel
theorem len_take {l : List Nat} {n m : Nat} (h : l.length ≤ n) : (l.take m).length ≤ n := by
  rw [List.length_take]
  omega
theorem len_drop {l : List Nat} {n m : Nat} (h : l.length ≤ n) : (l.drop m).length ≤ n := by
  rw [List.length_drop]
  omega

section
variable {P : Program} {w : World} {K : PySem.W.Frag} {mg : Str → Option Value} {base : Heap}
abbrev N_number_text : List Str := ["word", "figures"]
theorem sc_number_text : FnScope N_number_text ["word"] (defScope s_number_text) := ⟨rfl, rfl, rfl, by decide +kernel, rfl, by decide +kernel, by decide +kernel⟩
def oInt : Option Int → V
  | none => .non
  | some i => .int i
def sp_number_text : Sp := fun vs H Q _ => ∃ l : List Nat, vs = [.str (S l)] ∧ l.length ≤ 100000 ∧ ∀ H', Same H H' → Q (oInt (numM l)) H'
theorem cal_number_text (T : Tx w K mg) : C8.Cal P w K mg base 2 "number_text" sp_number_text [] := by
  have c_is_digits := cal_is_digits (P := P) (base := base) T
  refine cal_of (st := s_number_text) (ps := ["word"]) T.d_number_text T.m_number_text sc_number_text (fun _ _ _ _ _ _ us hl => match us, hl with | [_], _ => rfl) (fun vs H Q E h => ?_) (fun cdv A outer s H vs Q E hr h => ?_)
  · obtain ⟨l, rfl, _⟩ := h
    rfl
  · obtain ⟨l, rfl, hl, q⟩ := h
    refine ⟨_, (pss_cons (ps_if (pt_cmpR op_eq (pe_slice sl_str (pv 0) po_none (po_some pe_int)) pe_str (nomark _))
        (pss_one (ps_ret (pe_ifExp (pt_val (pe_c c_is_digits hr (by decide) (by rfl) (pa_cons (pe_slice sl_str (pv 0) (po_some pe_int) po_none) (pa_cons (pe_gc (by rfl) T.v_SIXTEENS) (pa_cons (pe_gc (by rfl) T.v_MOST_SIXTEENS) pa_nil))))) (pe_callTy call_int_hex (by rfl) T.f_int (by decide +kernel) (pa_cons (pe_slice sl_str (pv 0) (po_some pe_int) po_none) (pa_cons pe_int pa_nil))) pe_non)))
        pss_nil)
      (pss_cons (ps_set (i := 1) sc_number_text.nd rfl (Or.inl rfl) (pe_ifExp (pt_cmpR op_eq (pe_slice sl_str (pv 0) po_none (po_some pe_int)) pe_str (nomark _)) (pe_slice sl_str (pv 0) (po_some pe_int) po_none) (pv 0)))
      (pss_cons (ps_if (pt_not (pt_val (pe_c c_is_digits hr (by decide) (by rfl) (pa_cons (pv 1) (pa_cons (pe_gc (by rfl) T.v_DECIMAL) (pa_cons (pe_gc (by rfl) T.v_MOST_DECIMAL) pa_nil))))))
        (pss_one (ps_ret pe_non))
        pss_nil)
      (pss_one (ps_ret (pe_ifExp (pt_cmpR op_eq (pe_ix ix_str (pv 0) pe_int (fun _ _ => rfl)) pe_str (nomark _)) (pe_op op_sub pe_int (pe_callTy call_int_str (by rfl) T.f_int (by decide +kernel) (pa_cons (pv 1) pa_nil))) (pe_callTy call_int_str (by rfl) T.f_int (by decide +kernel) (pa_cons (pv 1) pa_nil)))))))), ?_⟩
    have hz : (S l).length ≤ sizeLine := by rw [S_len]; exact sz (by omega)
    refine ⟨_, rfl, _, rfl, _, rfl, hz, ?_⟩
    rw [show (some (2 : Int)) = some ((2 : Nat) : Int) from rfl, cut_to, str_0x]
    refine ⟨rfl, _, rfl, ?_⟩
    rw [dec_S]
    by_cases h0 : l.take 2 = [48, 120]
    · refine iteDT h0 ?_
      refine ⟨_, rfl, _, rfl, _, rfl, hz, ?_⟩
      rw [show (some (2 : Int)) = some ((2 : Nat) : Int) from rfl, cut_from]
      refine ⟨_, _, _, rfl, len_drop hl, fun H1 s1 => ⟨_, rfl, ?_⟩⟩
      have eN : numM l = (if digM (l.drop 2) sixteens 4 = true then some ((Hx.hexNum (l.drop 2) : Nat) : Int) else none) := if_pos h0
      rw [eN] at q
      refine iteB (fun h1 => ?_) fun h1 => ?_
      · have h1' : digM (l.drop 2) sixteens 4 = true := h1
        rw [if_pos h1'] at q
        obtain ⟨g1, g2, g3⟩ := digM_iff h1'
        refine ⟨_, rfl, _, rfl, _, rfl, hz, ?_⟩
        rw [show (some (2 : Int)) = some ((2 : Nat) : Int) from rfl, cut_from]
        refine ⟨_, rfl, fun e => ?_, by omega, fun c hc => six_mem c (g3 c hc), q _ s1⟩
        rw [e] at g1
        exact absurd g1 (by decide)
      · have h1' : ¬ digM (l.drop 2) sixteens 4 = true := by
          intro z
          have z2 := h1.symm.trans z
          cases z2
        rw [if_neg h1'] at q
        exact q _ s1
    · refine iteDF h0 ?_
      have eN : numM l = (if digM (if l.take 1 = [45] then l.drop 1 else l) decimal 6 = true then
        some (if l.getD 0 0 = 45 then 0 - ((PySem.NumText.digitsVal (l.drop 1) : Nat) : Int) else ((PySem.NumText.digitsVal l : Nat) : Int)) else none) := if_neg h0
      rw [eN] at q
      refine ⟨_, rfl, _, rfl, _, rfl, hz, ?_⟩
      rw [show (some (1 : Int)) = some ((1 : Nat) : Int) from rfl, cut_to, str_minus]
      refine ⟨rfl, _, rfl, ?_⟩
      rw [dec_S]
      by_cases h1 : l.take 1 = [45]
      · rw [if_pos h1] at q
        refine iteDT h1 ⟨_, rfl, _, rfl, _, rfl, hz, ?_⟩
        rw [show (some (1 : Int)) = some ((1 : Nat) : Int) from rfl, cut_from]
        refine ⟨_, rfl, _, _, _, rfl, len_drop hl, fun H1 s1 => ⟨_, rfl, ?_⟩⟩
        refine iteNB (fun h2 => ?_) fun h2 => ?_
        · rw [if_neg (fun z => by rw [show digM (l.drop 1) decimal 6 = false from h2] at z; cases z)] at q
          exact q _ s1
        · have h2 : digM (l.drop 1) decimal 6 = true := h2
          rw [if_pos h2] at q
          obtain ⟨c, r, rfl⟩ : ∃ c r, l = c :: r := by
            cases l with
            | nil => cases h1
            | cons c r => exact ⟨c, r, rfl⟩
          have ec : c = 45 := (List.cons.inj h1).1
          subst ec
          obtain ⟨e1, e2⟩ := int_of h2
          refine ⟨_, rfl, _, _, 45, rfl, rfl, hz, atI_nat (j := 0) rfl, rfl, _, rfl, ?_⟩
          refine iteDT rfl ⟨_, rfl, _, _, rfl, e1, e2, _, _, rfl, rfl, ?_⟩
          have := q _ s1
          rw [if_pos (show (45 :: r).getD 0 0 = 45 from rfl)] at this
          exact this
      · rw [if_neg h1] at q
        refine iteDF h1 ⟨_, rfl, _, rfl, _, _, _, rfl, hl, fun H1 s1 => ⟨_, rfl, ?_⟩⟩
        refine iteNB (fun h2 => ?_) fun h2 => ?_
        · rw [if_neg (fun z => by rw [show digM l decimal 6 = false from h2] at z; cases z)] at q
          exact q _ s1
        · have h2 : digM l decimal 6 = true := h2
          rw [if_pos h2] at q
          obtain ⟨g1, g2, g3⟩ := digM_iff h2
          obtain ⟨c, r, rfl⟩ : ∃ c r, l = c :: r := by
            cases l with
            | nil => exact absurd g1 (by decide)
            | cons c r => exact ⟨c, r, rfl⟩
          have ec : ¬ c = 45 := by
            have := dec_mem c (g3 c List.mem_cons_self)
            omega
          obtain ⟨e1, e2⟩ := int_of h2
          refine ⟨_, rfl, _, _, c, rfl, rfl, hz, atI_nat (j := 0) rfl, rfl, _, rfl, ?_⟩
          have en : ¬ V.str (S [c]) = V.str (S [45]) := fun z => ec (List.cons.inj (S_inj (V.str.inj z))).1
          refine iteDF en ⟨_, rfl, _, _, rfl, e1, e2, ?_⟩
          have := q _ s1
          rw [if_neg (show ¬ (c :: r).getD 0 0 = 45 from ec)] at this
          exact this
end
end K21
/-! ## WC -/
set_option Elab.async false
set_option linter.all false
set_option maxRecDepth 100000
set_option maxHeartbeats 4000000
namespace K21
open PySem PySem.Spec PyProof.Rows L2 C8
local macro_rules | `(tactic| walk_at "adv") => `(tactic| repeat (first | refine ⟨_, rfl, ?_⟩ | refine ⟨rfl, ?_⟩ | refine ⟨_, _, rfl, rfl, ?_⟩ | refine iteT ?_ | refine iteF ?_))

/-! the words of a line -/
def Plain (w : List Nat) : Prop := w ≠ [] ∧ ∀ c ∈ w, c ≠ 32 ∧ c ≠ 59 ∧ c ≠ 34
def Quoted (w : List Nat) : Prop := ∃ b, w = 34 :: (b ++ [34]) ∧ ∀ c ∈ b, c ≠ 34
def Stop (r : List Nat) : Prop := r = [] ∨ (∃ r', r = 32 :: r') ∨ ∃ r', r = 59 :: r'
inductive Toks : List Nat → List (List Nat) → Prop where
  | nil : Toks [] []
  | rem (r : List Nat) : Toks (59 :: r) []
  | sp {r : List Nat} {ws : List (List Nat)} : Toks r ws → Toks (32 :: r) ws
  | word {w r : List Nat} {ws : List (List Nat)} : (Plain w ∨ Quoted w) → Stop r → Toks r ws → Toks (w ++ r) (w :: ws)
theorem str_q : ("\"" : Str) = ⟨#[34]⟩ := by decide +kernel
theorem str_sp : (" " : Str) = S [32] := by decide +kernel
theorem str_sc : (";" : Str) = S [59] := by decide +kernel
theorem str_e : ("" : Str) = S [] := by decide +kernel
theorem eqV_S (a b : List Nat) : eqV (.str (S a)) (.str (S b)) = decide (a = b) := by
  show (S a == S b) = decide (a = b)
  rw [SX.S_beq]
  by_cases h : a = b
  · subst h; simp
  · simp [h]
theorem drop_split {l w r : List Nat} {a : Nat} (h : l.drop a = w ++ r) : l.drop (a + w.length) = r := by
  rw [← List.drop_drop, h, List.drop_append_of_le_length (Nat.le_refl _)]
  simp
theorem drop_cons {l r : List Nat} {c a : Nat} (h : l.drop a = c :: r) : a < l.length ∧ l[a]? = some c ∧ l.drop (a + 1) = r := by
  have hl : a < l.length := by
    by_cases z : a < l.length
    · exact z
    · rw [List.drop_of_length_le (by omega)] at h
      cases h
  refine ⟨hl, ?_, drop_split (w := [c]) h⟩
  have := congrArg (fun z => z[0]?) h
  simpa using this
theorem drop_nil {l : List Nat} {a : Nat} (h : l.drop a = []) : l.length ≤ a := by
  have := congrArg List.length h
  simp at this
  omega
theorem take1_stop {r : List Nat} (h : Stop r) : r.take 1 = [] ∨ r.take 1 = [32] ∨ r.take 1 = [59] := by
  rcases h with h | ⟨r', h⟩ | ⟨r', h⟩
  · exact .inl (by rw [h]; rfl)
  · exact .inr (.inl (by rw [h]; rfl))
  · exact .inr (.inr (by rw [h]; rfl))
theorem find_q {l b r : List Nat} {a : Nat} (h : l.drop a = 34 :: (b ++ 34 :: r)) (hb : ∀ c ∈ b, c ≠ 34) : PySem.Txt.find3 (S l) ⟨#[34]⟩ ((a : Int) + 1) = ((a + 1 + b.length : Nat) : Int) := by
  obtain ⟨hl, _, h1⟩ := drop_cons h
  have hx : PySem.fromIndex (S l).length ((a : Int) + 1) = a + 1 := by
    unfold PySem.fromIndex
    rw [if_neg (by omega)]
    omega
  have get : ∀ v, (S l).cps.getD v 0 = l.getD v 0 := fun v => by simp [S]
  have at_ : ∀ j, l.getD (a + 1 + j) 0 = (b ++ 34 :: r).getD j 0 := fun j => by
    rw [List.getD_eq_getElem?_getD, List.getD_eq_getElem?_getD, ← h1, List.getElem?_drop]
  have hit : l.getD (a + 1 + b.length) 0 = 34 := by
    rw [at_, List.getD_eq_getElem?_getD, List.getElem?_append_right (Nat.le_refl _)]
    simp
  have hlen : a + 1 + b.length < l.length := by
    have := congrArg List.length h1
    simp at this
    omega
  have miss : ∀ v, a + 1 ≤ v → v < a + 1 + b.length → l.getD v 0 ≠ 34 := fun v h2 h3 => by
    obtain ⟨j, rfl⟩ : ∃ j, v = a + 1 + j := ⟨v - (a + 1), by omega⟩
    rw [at_, List.getD_eq_getElem?_getD, List.getElem?_append_left (by omega), List.getElem?_eq_getElem (by omega)]
    exact hb _ (List.getElem_mem _)
  rcases PySem.StrLaws.find3_spec (S l) 34 ((a : Int) + 1) with ⟨_, hn⟩ | ⟨k, e, h2, h3, h4, h5⟩
  · rw [hx] at hn
    exact absurd ((get _).trans hit) (hn _ (by omega) (by rw [S_len]; omega))
  · rw [hx] at h2 h5
    rw [e]
    have : k = a + 1 + b.length := by
      rcases Nat.lt_trichotomy k (a + 1 + b.length) with z | z | z
      · exact absurd ((get _).symm.trans h4) (miss k h2 z)
      · exact z
      · exact absurd ((get _).trans hit) (h5 _ (by omega) z)
    rw [this]

section
variable {P : Program} {w : World} {K : PySem.W.Frag} {mg : Str → Option Value} {base : Heap}
abbrev N_quoted_end : List Str := ["line", "at", "end"]
theorem sc_quoted_end : FnScope N_quoted_end ["line", "at"] (defScope s_quoted_end) := ⟨rfl, rfl, rfl, by decide +kernel, rfl, by decide +kernel, by decide +kernel⟩
def sp_quoted_end : Sp := fun vs H Q _ => ∃ (l b r : List Nat) (a : Nat), vs = [.str (S l), .int a] ∧ l.length ≤ 100000 ∧ l.drop a = 34 :: (b ++ 34 :: r) ∧ (∀ c ∈ b, c ≠ 34) ∧ Stop r ∧ ∀ H', Same H H' → Q (.int ((a + b.length + 2 : Nat) : Int)) H'
theorem cal_quoted_end (T : Tx w K mg) : C8.Cal P w K mg base 1 "quoted_end" sp_quoted_end [] := by
  refine cal_of (st := s_quoted_end) (ps := ["line", "at"]) T.d_quoted_end T.m_quoted_end sc_quoted_end (fun _ _ _ _ _ _ us hl => match us, hl with | [_, _], _ => rfl) (fun vs H Q E h => ?_) (fun cdv A outer s H vs Q E hr h => ?_)
  · obtain ⟨l, b, r, a, rfl, _⟩ := h
    rfl
  · obtain ⟨l, b, r, a, rfl, hl, hd, hb, hs, q⟩ := h
    refine ⟨_, (pss_cons (ps_set (i := 2) sc_quoted_end.nd rfl (Or.inl rfl) (pe_op op_add (pe_bm PySem.F.plainAttrs_str PySem.F.slot_str_find PySem.F.type_str_find mt_find3 (pv 0) (pa_cons (pe_gc (by rfl) T.v_QUOTE) (pa_cons (pe_op op_add (pv 1) pe_int) pa_nil))) pe_int))
      (pss_cons (ps_if (PW.pt (pw_or (pt_cmpR op_eq (pv 2) pe_int (nomark _)) (pw_or1 (pt_cmpR op_notIn_seq (pe_slice sl_str (pv 0) (po_some (pv 2)) (po_some (pe_op op_add (pv 2) pe_int))) (pe_tup (pa_cons pe_str (pa_cons pe_str (pa_cons pe_str pa_nil)))) (by rfl)))))
        (pss_one (ps_ret pe_non))
        pss_nil)
      (pss_one (ps_ret (pv 2))))), ?_⟩
    refine ⟨_, rfl, rfl, _, rfl, _, _, rfl, rfl, _, _, _, rfl, rfl, ?_⟩
    rw [str_q, find_q hd hb]
    refine ⟨_, _, rfl, rfl, ?_⟩
    have e1 : ((a + 1 + b.length : Nat) : Int) + 1 = ((a + b.length + 2 : Nat) : Int) := by omega
    dsimp only
    rw [e1]
    refine ⟨_, rfl, rfl, _, rfl, ?_⟩
    refine iteDF (fun z => by have := V.int.inj z; omega) ?_
    refine ⟨_, rfl, _, rfl, _, rfl, _, rfl, _, _, rfl, rfl, _, rfl, _, rfl, by rw [S_len]; exact sz (by omega), ?_⟩
    dsimp only
    rw [show ((a + b.length + 2 : Nat) : Int) + 1 = ((a + b.length + 2 + 1 : Nat) : Int) by omega, cut_both]
    have ed : l.drop (a + b.length + 2) = r := by
      have h2 : l.drop a = (34 :: (b ++ [34])) ++ r := by rw [hd]; simp
      have := drop_split h2
      simp at this
      exact this
    rw [ed, show a + b.length + 2 + 1 - (a + b.length + 2) = 1 by omega, str_e, str_sp, str_sc]
    refine ⟨sz (by show 3 ≤ 1000000; decide), fun p np => ?_⟩
    generalize hH : upd _ p _ = H1
    have s1 := new_same hH np
    have e := new_at hH
    have hin : inV (.str (S (r.take 1))) [V.str (S []), V.str (S [32]), V.str (S [59])] = true := by
      unfold inV
      rw [List.any_cons, List.any_cons, List.any_cons, eqV_S, eqV_S, eqV_S]
      rcases take1_stop hs with h | h | h
      · rw [h]; decide
      · rw [h]; decide
      · rw [h]; decide
    refine ⟨p, _, rfl, .inr (.inl (.inl e)), rfl, rfl, _, rfl, ?_⟩
    rw [hin]
    exact iteF ⟨_, rfl, q _ s1⟩
abbrev N_plain_end : List Str := ["line", "at", "end"]
theorem sc_plain_end : FnScope N_plain_end ["line", "at"] (defScope s_plain_end) := ⟨rfl, rfl, rfl, by decide +kernel, rfl, by decide +kernel, by decide +kernel⟩
def sp_plain_end : Sp := fun vs H Q _ => ∃ (l w r : List Nat) (a : Nat), vs = [.str (S l), .int a] ∧ l.length ≤ 100000 ∧ l.drop a = w ++ r ∧ Plain w ∧ Stop r ∧ ∀ H', Same H H' → Q (.int ((a + w.length : Nat) : Int)) H'
theorem cal_plain_end (T : Tx w K mg) : C8.Cal P w K mg base 1 "plain_end" sp_plain_end [] := by
  refine cal_of (st := s_plain_end) (ps := ["line", "at"]) T.d_plain_end T.m_plain_end sc_plain_end (fun _ _ _ _ _ _ us hl => match us, hl with | [_, _], _ => rfl) (fun vs H Q E h => ?_) (fun cdv A outer s H vs Q E hr h => ?_)
  · obtain ⟨l, w, r, a, rfl, _⟩ := h
    rfl
  · obtain ⟨l, w, r, a, rfl, hl, hd, hw, hs, q⟩ := h
    refine ⟨_, (pss_cons (ps_set (i := 2) sc_plain_end.nd rfl (Or.inl rfl) (pv 1))
      (pss_cons (ps_while PassesOwn.never (PW.pt (pw_and (pt_cmpR op_lt (pv 2) (pe_callB call_len_str (by rfl) T.f_len (by decide +kernel) (pa_cons (pv 0) pa_nil)) (nomark _)) (pw_and1 (pt_cmpR op_notIn_seq (pe_ix ix_str (pv 0) (pv 2) (fun _ _ => rfl)) (pe_tup (pa_cons pe_str (pa_cons pe_str pa_nil))) (by rfl)))))
        (pss_cons (ps_if (pt_cmpR op_eq (pe_ix ix_str (pv 0) (pv 2) (fun _ _ => rfl)) (pe_gc (by rfl) T.v_QUOTE) (nomark _))
          (pss_one (ps_ret pe_non))
          pss_nil)
        (pss_one (ps_set (i := 2) sc_plain_end.nd rfl (Or.inl rfl) (pe_op op_add (pv 2) pe_int)))))
      (pss_one (ps_ret (pv 2))))), ?_⟩
    have hz : (S l).length ≤ sizeLine := by rw [S_len]; exact sz (by omega)
    refine ⟨_, rfl, fun m σ H2 => ∃ k, k ≤ w.length ∧ m = w.length - k ∧ σ = [some (.str (S l)), some (.int (a : Int)), some (.int ((a + k : Nat) : Int))] ∧ Same H H2, ⟨_, 0, Nat.zero_le _, rfl, rfl, Same.refl H⟩, ?_⟩
    rintro m σ H2 ⟨k, hk, rfl, rfl, s1⟩
    refine ⟨_, rfl, _, rfl, _, rfl, hz, _, _, rfl, rfl, _, rfl, ?_⟩
    have hwl : l.drop (a + w.length) = r := drop_split hd
    have fin : ∀ H3, Same H H3 → k = w.length → Q (.int ((a + k : Nat) : Int)) H3 := fun H3 s3 e => by
      rw [e]
      exact q _ s3
    rw [S_len]
    by_cases hlt : a + k < l.length
    · refine iteDT (by omega) ?_
      obtain ⟨c, rest, hc⟩ : ∃ c rest, l.drop (a + k) = c :: rest := by
        cases e : l.drop (a + k) with
        | nil => exact absurd (drop_nil e) (by omega)
        | cons c rest => exact ⟨c, rest, rfl⟩
      obtain ⟨_, hget, _⟩ := drop_cons hc
      refine ⟨_, rfl, _, rfl, _, _, c, rfl, rfl, hz, atI_nat (j := a + k) hget, ?_⟩
      rw [str_sp, str_sc]
      refine ⟨sz (by show 2 ≤ 1000000; decide), fun p np => ?_⟩
      generalize hH : upd _ p _ = H3
      have s3 := new_same hH np
      have e := new_at hH
      refine ⟨p, _, rfl, .inr (.inl (.inl e)), rfl, rfl, _, rfl, ?_⟩
      have hin : inV (.str (S [c])) [V.str (S [32]), V.str (S [59])] = (decide (c = 32) || decide (c = 59)) := by
        unfold inV
        rw [List.any_cons, List.any_cons, eqV_S, eqV_S]
        simp [eq_comm]
      show if (!inV (.str (S [c])) [V.str (S [32]), V.str (S [59])]) = true then _ else _
      rw [hin]
      by_cases hkw : k < w.length
      · have hcw : c ∈ w := by
          rw [← List.drop_drop, hd, List.drop_append_of_le_length (by omega)] at hc
          have h0 : (w.drop k ++ r)[0]? = some c := by rw [hc]; rfl
          rw [List.getElem?_append_left (by simp; omega), List.getElem?_drop] at h0
          exact List.mem_of_getElem? h0
        obtain ⟨n1, n2, n3⟩ := hw.2 c hcw
        rw [decide_eq_false n1, decide_eq_false n2]
        refine iteT ⟨fun σ' H' => ∃ m', m' < w.length - k ∧ ∃ k, k ≤ w.length ∧ m' = w.length - k ∧ σ' = [some (.str (S l)), some (.int (a : Int)), some (.int ((a + k : Nat) : Int))] ∧ Same H H', fun σ' H' h => h, ?_⟩
        refine ⟨_, rfl, _, rfl, _, _, c, rfl, rfl, hz, atI_nat (j := a + k) hget, rfl, _, rfl, ?_⟩
        rw [str_q]
        refine iteDF (fun z => n3 (List.cons.inj (S_inj (b := [34]) (V.str.inj z))).1) ⟨_, rfl, _, _, rfl, rfl, w.length - (k + 1), by omega, k + 1, by omega, rfl, rfl, s1.trans s3⟩
      · have hke : k = w.length := by omega
        rw [hke, hwl] at hc
        have : c = 32 ∨ c = 59 := by
          rcases hs with h | ⟨r', h⟩ | ⟨r', h⟩
          · rw [h] at hc; cases hc
          · rw [h] at hc; exact .inl (List.cons.inj hc).1.symm
          · rw [h] at hc; exact .inr (List.cons.inj hc).1.symm
        have e2 : (decide (c = 32) || decide (c = 59)) = true := by
          rcases this with h | h
          · rw [decide_eq_true h]; rfl
          · rw [decide_eq_true h, Bool.or_true]
        rw [e2]
        exact iteF ⟨_, rfl, fin _ (s1.trans s3) hke⟩
    · refine iteDF (by omega) (iteF ⟨_, rfl, fin _ s1 ?_⟩)
      have := congrArg List.length hd
      simp at this
      omega
end
end K21
/-! ## WD -/
set_option Elab.async false
set_option linter.all false
set_option maxRecDepth 100000
set_option maxHeartbeats 4000000
namespace K21
open PySem PySem.Spec PyProof.Rows L2 C8
local macro_rules | `(tactic| walk_at "adv") => `(tactic| repeat (first | refine ⟨_, rfl, ?_⟩ | refine ⟨rfl, ?_⟩ | refine ⟨_, _, rfl, rfl, ?_⟩ | refine iteT ?_ | refine iteF ?_))

theorem toks_inv {l : List Nat} {ws : List (List Nat)} (h : Toks l ws) : (l = [] ∧ ws = []) ∨ (∃ r, l = 59 :: r ∧ ws = []) ∨ (∃ r, l = 32 :: r ∧ Toks r ws) ∨ ∃ w r ws', l = w ++ r ∧ ws = w :: ws' ∧ (Plain w ∨ Quoted w) ∧ Stop r ∧ Toks r ws' := by
  cases h with
  | nil => exact .inl ⟨rfl, rfl⟩
  | rem r => exact .inr (.inl ⟨r, rfl, rfl⟩)
  | sp h => exact .inr (.inr (.inl ⟨_, rfl, h⟩))
  | word a b c => exact .inr (.inr (.inr ⟨_, _, _, rfl, rfl, a, b, c⟩))
theorem word_head {w : List Nat} (h : Plain w ∨ Quoted w) : ∃ c w', w = c :: w' ∧ c ≠ 32 ∧ c ≠ 59 ∧ (Plain w → c ≠ 34) := by
  rcases h with h | ⟨b, h, _⟩
  · rcases w with _ | ⟨c, w⟩
    · exact absurd rfl h.1
    · obtain ⟨a, b, d⟩ := h.2 c List.mem_cons_self
      exact ⟨c, w, rfl, a, b, fun _ => d⟩
  · refine ⟨34, b ++ [34], h, by decide, by decide, fun p => ?_⟩
    exact absurd rfl (p.2 34 (by rw [h]; exact List.mem_cons_self)).2.2
theorem toks_len {l : List Nat} {ws : List (List Nat)} (h : Toks l ws) : ws.length ≤ l.length := by
  induction h with
  | nil => exact Nat.le_refl _
  | rem r => exact Nat.zero_le _
  | sp _ ih => simp; omega
  | @word w r ws hw _ _ ih =>
    have : 1 ≤ w.length := by
      rcases hw with h | ⟨b, h, _⟩
      · rcases w with _ | ⟨c, w⟩
        · exact absurd rfl h.1
        · simp
      · rw [h]; simp
    simp
    omega

section
variable {P : Program} {w : World} {K : PySem.W.Frag} {mg : Str → Option Value} {base : Heap}
abbrev N_line_words : List Str := ["line", "found", "at", "end"]
theorem sc_line_words : FnScope N_line_words ["line"] (defScope s_line_words) := ⟨rfl, rfl, rfl, by decide +kernel, rfl, by decide +kernel, by decide +kernel⟩
def LwInv (l : List Nat) (ws : List (List Nat)) (F : Addr) (H : Hp) (m : Nat) (σ : L2.St) (H2 : Hp) : Prop := ∃ (a : Nat) (done rest : List (List Nat)) (y : Option V), m = l.length - a ∧ σ = [some (.str (S l)), some (.ref F), some (.int (a : Int)), y] ∧ Toks (l.drop a) rest ∧ ws = done ++ rest ∧ a ≤ l.length ∧ Same H H2 ∧ H2 F = some (.lst (done.map fun x => .str (S x)))
def sp_line_words : Sp := fun vs H Q _ => ∃ (l : List Nat) (ws : List (List Nat)), vs = [.str (S l)] ∧ l.length ≤ 100000 ∧ Toks l ws ∧ ∀ H' p, Same H H' → H p = none → H' p = some (.lst (ws.map fun x => .str (S x))) → Q (.ref p) H'
theorem cal_line_words (T : Tx w K mg) : C8.Cal P w K mg base 2 "line_words" sp_line_words [] := by
  have c_quoted_end := cal_quoted_end (P := P) (base := base) T
  have c_plain_end := cal_plain_end (P := P) (base := base) T
  refine cal_of (st := s_line_words) (ps := ["line"]) T.d_line_words T.m_line_words sc_line_words (fun _ _ _ _ _ _ us hl => match us, hl with | [_], _ => rfl) (fun vs H Q E h => ?_) (fun cdv A outer s H vs Q E hr h => ?_)
  · obtain ⟨l, ws, rfl, _⟩ := h
    rfl
  · obtain ⟨l, ws, rfl, hl, ht, q⟩ := h
    refine ⟨_, (pss_cons (ps_par (i := 1) (j := 2) (by rfl) sc_line_words.nd rfl rfl (by decide) rfl rfl (pa_cons (pe_lst pa_nil) (pa_cons pe_int pa_nil)) (by rfl))
      (pss_cons (ps_while PassesOwn.never (PW.pt (pw_and (pt_cmpR op_lt (pv 2) (pe_callB call_len_str (by rfl) T.f_len (by decide +kernel) (pa_cons (pv 0) pa_nil)) (nomark _)) (pw_and1 (pt_cmpR op_ne (pe_ix ix_str (pv 0) (pv 2) (fun _ _ => rfl)) pe_str (nomark _)))))
        (pss_one (ps_if (pt_cmpR op_eq (pe_ix ix_str (pv 0) (pv 2) (fun _ _ => rfl)) pe_str (nomark _))
          (pss_one (ps_set (i := 2) sc_line_words.nd rfl (Or.inl rfl) (pe_op op_add (pv 2) pe_int)))
          (pss_cons (ps_set (i := 3) sc_line_words.nd rfl (Or.inl rfl) (pe_ifExp (pt_cmpR op_eq (pe_ix ix_str (pv 0) (pv 2) (fun _ _ => rfl)) (pe_gc (by rfl) T.v_QUOTE) (nomark _)) (pe_c c_quoted_end hr (by decide) (by rfl) (pa_cons (pv 0) (pa_cons (pv 2) pa_nil))) (pe_c c_plain_end hr (by decide) (by rfl) (pa_cons (pv 0) (pa_cons (pv 2) pa_nil)))))
          (pss_cons (ps_if (pt_cmpR op_isN (pv 3) pe_non (nomark _))
            (pss_one (ps_ret pe_non))
            pss_nil)
          (pss_cons (ps_expr (pe_bm PySem.F.plainAttrs_list PySem.F.slot_list_append PySem.F.type_list_append mt_append (pv 1) (pa_cons (pe_slice sl_str (pv 0) (po_some (pv 2)) (po_some (pv 3))) pa_nil)))
          (pss_one (ps_set (i := 2) sc_line_words.nd rfl (Or.inl rfl) (pv 3)))))))))
      (pss_one (ps_ret (pv 1))))), ?_⟩
    have hz : (S l).length ≤ sizeLine := by rw [S_len]; exact sz (by omega)
    refine ⟨Nat.zero_le _, fun F nF => ?_⟩
    generalize hH : upd _ F _ = H1
    have s1 := new_same hH nF
    have e1 := new_at hH
    refine ⟨_, _, rfl, fun m σ H2 => LwInv l ws F H m σ H2, ⟨_, 0, [], ws, none, rfl, rfl, ht, rfl, Nat.zero_le _, s1, e1⟩, ?_⟩
    rintro m σ H2 ⟨a, done, rest, y, rfl, rfl, ht2, ew, ha, s2, e2⟩
    refine ⟨_, rfl, _, rfl, _, rfl, hz, _, _, rfl, rfl, _, rfl, ?_⟩
    rw [S_len]
    have fin : ∀ H3, H3 = H2 → rest = [] → tRet (tVar 1) { nx := fun _ H' => Q .non H', rt := Q } [some (.str (S l)), some (.ref F), some (.int (a : Int)), y] H3 := fun H3 e3 er => by
      subst e3
      rw [er, List.append_nil] at ew
      rw [← ew] at e2
      exact ⟨_, rfl, q _ F s2 nF e2⟩
    by_cases hlt : a < l.length
    · refine iteDT (by omega) ?_
      obtain ⟨c, r0, hc⟩ : ∃ c r0, l.drop a = c :: r0 := by
        cases e : l.drop a with
        | nil => exact absurd (drop_nil e) (by omega)
        | cons c r0 => exact ⟨c, r0, rfl⟩
      obtain ⟨_, hget, hd1⟩ := drop_cons hc
      refine ⟨_, rfl, _, rfl, _, _, c, rfl, rfl, hz, atI_nat (j := a) hget, ?_⟩
      rw [str_sc]
      refine ⟨rfl, _, rfl, ?_⟩
      have eS : ∀ d, decide (V.str (S [c]) = V.str (S [d])) = decide (c = d) := fun d => by
        rw [dec_S]
        by_cases h : c = d
        · rw [h]; simp
        · simp [h]
      show if (!decide (V.str (S [c]) = V.str (S [59]))) = true then _ else _
      rw [eS]
      have step : ∀ (a' : Nat) (rest' done' : List (List Nat)) (y' : Option V) (H3 : Hp), Toks (l.drop a') rest' → ws = done' ++ rest' → a < a' → a' ≤ l.length → Same H H3 → H3 F = some (.lst (done'.map fun x => .str (S x))) →
          ∃ m', m' < l.length - a ∧ LwInv l ws F H m' [some (.str (S l)), some (.ref F), some (.int (a' : Int)), y'] H3 :=
        fun a' rest' done' y' H3 h1 h2 h3 h4 h5 h6 => ⟨l.length - a', by omega, a', done', rest', y', rfl, rfl, h1, h2, h4, h5, h6⟩
      rcases toks_inv ht2 with ⟨h, _⟩ | ⟨r, h, er⟩ | ⟨r, h, hr⟩ | ⟨w, r, ws', h, er, hw, hst, hr⟩
      · rw [hc] at h; cases h
      · rw [hc] at h
        rw [(List.cons.inj h).1]
        exact iteF (fin _ rfl er)
      · rw [hc] at h
        have hc32 : c = 32 := (List.cons.inj h).1
        rw [hc32]
        refine iteT ⟨fun σ' H' => ∃ m', m' < l.length - a ∧ LwInv l ws F H m' σ' H', fun _ _ h => h, ?_⟩
        refine ⟨_, rfl, _, rfl, _, _, c, rfl, rfl, hz, atI_nat (j := a) hget, ?_⟩
        rw [str_sp]
        refine ⟨rfl, _, rfl, ?_⟩
        rw [eS]
        refine iteDT hc32 ⟨_, rfl, _, _, rfl, rfl, ?_⟩
        rw [← (List.cons.inj h).2, ← hd1] at hr
        exact step (a + 1) rest done y H2 hr ew (by omega) hlt s2 e2
      · obtain ⟨c', w', ew2, n1, n2, n3⟩ := word_head hw
        have hcc : c = c' := by
          rw [hc, ew2] at h
          exact (List.cons.inj h).1
        subst hcc
        have hwl : a + w.length ≤ l.length := by
          have := congrArg List.length h
          simp at this
          omega
        have hwp : 1 ≤ w.length := by rw [ew2]; simp
        have hdr := drop_split h
        have hcut : cutS (S l) (some (a : Int)) (some ((a + w.length : Nat) : Int)) = S w := by
          rw [cut_both, h]
          simp
        rw [decide_eq_false n2]
        refine iteT ⟨fun σ' H' => ∃ m', m' < l.length - a ∧ LwInv l ws F H m' σ' H', fun _ _ h => h, ?_⟩
        refine ⟨_, rfl, _, rfl, _, _, c, rfl, rfl, hz, atI_nat (j := a) hget, ?_⟩
        rw [str_sp]
        refine ⟨rfl, _, rfl, ?_⟩
        rw [eS]
        refine iteDF n1 ?_
        show tIf _ _ _ _ _ _
        refine te_w (.int ((a + w.length : Nat) : Int)) (fun H3 => Same H2 H3) (fun H3 s3 => ?_) (fun Q' k => ?_)
        · refine ⟨_, rfl, rfl, _, rfl, iteF ?_⟩
          have e3 := s3 _ _ e2
          refine ⟨_, rfl, .inl ⟨rfl, _, .inl (.inl e3)⟩, _, rfl, _, rfl, _, rfl, _, rfl, _, rfl, _, rfl, hz, ?_⟩
          rw [hcut]
          have hlen : done.length ≤ 100000 := by
            have := toks_len ht
            rw [ew] at this
            simp at this
            omega
          refine ⟨F, _, _, rfl, rfl, e3, by rw [List.length_map]; exact szl (by omega), ?_⟩
          refine ⟨_, rfl, ?_⟩
          refine step (a + w.length) ws' (done ++ [w]) _ _ (by rw [hdr]; exact hr) (by rw [ew, er]; simp) (by omega) hwl (fun b o hb => ?_) (by rw [upd_same, List.map_append]; rfl)
          rw [upd_ne (ne_of_none hb nF)]
          exact s3 _ _ (s2 _ _ hb)
        · refine ⟨_, rfl, _, rfl, _, _, c, rfl, rfl, hz, atI_nat (j := a) hget, ?_⟩
          rw [str_q]
          refine ⟨rfl, _, rfl, ?_⟩
          show if decide (V.str (S [c]) = V.str (S [34])) = true then _ else _
          rw [eS]
          by_cases h34 : c = 34
          · refine iteDT h34 ⟨_, rfl, _, rfl, ?_⟩
            rcases hw with hw | ⟨b, hb, hb2⟩
            · exact absurd h34 (n3 hw)
            · have hl2 : a + w.length = a + b.length + 2 := by
                rw [hb]
                simp
                omega
              rw [hl2] at k
              exact ⟨l, b, r, a, rfl, hl, by rw [h, hb]; simp, hb2, hst, fun H3 s3 => k _ s3⟩
          · refine iteDF h34 ⟨_, rfl, _, rfl, ?_⟩
            rcases hw with hw | ⟨b, hb, hb2⟩
            · exact ⟨l, w, r, a, rfl, hl, h, hw, hst, fun H3 s3 => k _ s3⟩
            · rw [hb] at ew2
              exact absurd (List.cons.inj ew2).1.symm h34
    · refine iteDF (by omega) (iteF (fin _ rfl ?_))
      rw [List.drop_of_length_le (by omega)] at ht2
      rcases toks_inv ht2 with ⟨_, h⟩ | ⟨r, h, _⟩ | ⟨r, h, _⟩ | ⟨w, r, ws', h, _, hw, _⟩
      · exact h
      · cases h
      · cases h
      · obtain ⟨c', w', ew2, _⟩ := word_head hw
        rw [ew2] at h
        cases h
end
end K21
/-! ## K21Data -/
set_option Elab.async false
set_option linter.all false
set_option maxRecDepth 100000
set_option maxHeartbeats 4000000
namespace K21
open PySem PySem.Spec PyProof.Rows L2
/-! data compared as a whole -/
def Sh (n : Nat) (d : PyData) : Prop := d.canLay0 = true ∧ d.depth ≤ n
theorem Sh.int (i : Int) : Sh 0 (.int i) := ⟨rfl, Nat.le_refl _⟩
def Asc (l : List Nat) : Prop := ∀ c ∈ l, c < 128
theorem Sh.str {l : List Nat} (h : Asc l) : Sh 0 (.str (S l)) := by
  refine ⟨?_, Nat.le_refl _⟩
  show PyData.strOk (S l) = true
  unfold PyData.strOk
  rw [Array.all_eq_true']
  intro c hc
  have : c ∈ l := by simpa using hc
  have := h c this
  exact decide_eq_true (by omega)
theorem Sh.mono {n m : Nat} {d : PyData} (h : Sh n d) (k : n ≤ m) : Sh m d := ⟨h.1, Nat.le_trans h.2 k⟩
theorem sh_all {n : Nat} : ∀ {ds : List PyData}, (∀ d ∈ ds, Sh n d) → PyData.canLayAll0 ds = true ∧ PyData.depthAll ds ≤ n
  | [], _ => ⟨by simp [PyData.canLayAll0], by simp [PyData.depthAll]⟩
  | d :: ds, h => by
    obtain ⟨h1, h2⟩ := sh_all (ds := ds) fun x hx => h x (List.mem_cons_of_mem _ hx)
    obtain ⟨g1, g2⟩ := h d List.mem_cons_self
    refine ⟨by simp [PyData.canLayAll0, h1, g1], ?_⟩
    simp only [PyData.depthAll]
    omega
theorem Sh.list {n : Nat} {ds : List PyData} (h : ∀ d ∈ ds, Sh n d) : Sh (n + 1) (.list ds) := by
  obtain ⟨h1, h2⟩ := sh_all h
  exact ⟨by simp [PyData.canLay0, h1], by simp only [PyData.depth]; omega⟩
theorem Sh.tuple {n : Nat} {ds : List PyData} (h : ∀ d ∈ ds, Sh n d) : Sh (n + 1) (.tuple ds) := by
  obtain ⟨h1, h2⟩ := sh_all h
  exact ⟨by simp [PyData.canLay0, h1], by simp only [PyData.depth]; omega⟩
theorem Sh.shaped {n : Nat} {d : PyData} (h : Sh n d) (k : n ≤ 64) : SeqAt.shaped d = true := by
  unfold SeqAt.shaped
  rw [h.1, decide_eq_true (Nat.le_trans h.2 k)]
  rfl
theorem Sh.refl {n : Nat} {d : PyData} (h : Sh n d) : PyData.eqv d d = true := SeqAt.eqv_refl d h.1
theorem dp_strs (K : PySem.W.Frag) (H : Hp) : ∀ l : List (List Nat), DpAll K H (l.map fun x => .str (S x)) (l.map fun x => PyData.str (S x))
  | [] => .nil
  | x :: l => .cons (.str _) (dp_strs K H l)
theorem dp_ints (K : PySem.W.Frag) (H : Hp) : ∀ l : List Int, DpAll K H (l.map V.int) (l.map PyData.int)
  | [] => .nil
  | x :: l => .cons (.int _) (dp_ints K H l)
theorem sh_strs {l : List (List Nat)} (ha : ∀ x ∈ l, Asc x) : Sh 1 (.list (l.map fun x => PyData.str (S x))) := Sh.list fun d h => by
  obtain ⟨x, hx, rfl⟩ := List.mem_map.mp h
  exact Sh.str (ha x hx)
theorem eqv_nil : ∀ l : List PyData, PyData.eqv (.list l) (.list []) = l.isEmpty
  | [] => by simp [PyData.eqv, PyData.eqvAll]
  | x :: l => by simp [PyData.eqv, PyData.eqvAll]
theorem sh_nil : Sh 1 (.list []) := Sh.list fun d h => by simp at h
end K21
/-! ## WE -/
set_option Elab.async false
set_option linter.all false
set_option maxRecDepth 100000
set_option maxHeartbeats 4000000
namespace K21
open PySem PySem.Spec PyProof.Rows L2 C8
local macro_rules | `(tactic| walk_at "adv") => `(tactic| repeat (first | refine ⟨_, rfl, ?_⟩ | refine ⟨rfl, ?_⟩ | refine ⟨_, _, rfl, rfl, ?_⟩ | refine iteT ?_ | refine iteF ?_))

theorem str_colon : (":" : Str) = S [58] := by decide +kernel
/-- a line's label and its words -/
def LabOf (ws : List (List Nat)) (lab : Option (List Nat)) (rest : List (List Nat)) : Prop :=
  (lab = none ∧ rest = ws ∧ ∀ w r, ws = w :: r → w.getLast? ≠ some 58) ∨ ∃ n, lab = some n ∧ ws = (n ++ [58]) :: rest ∧ isNameM n = true
def oStr : Option (List Nat) → V
  | none => .non
  | some n => .str (S n)
theorem last_at {l : List Nat} {c : Nat} (h : l.getLast? = some c) : atI l (-1) = some c := by
  have hne : l ≠ [] := fun e => by rw [e] at h; cases h
  have := atI_last l.dropLast (l.getLast hne)
  rw [List.dropLast_concat_getLast hne] at this
  rw [this, ← h, List.getLast?_eq_some_getLast hne]
theorem cut_butlast (l : List Nat) (c : Nat) : cutS (S (l ++ [c])) none (some (-1)) = S l := by
  rw [cutS_slice]
  exact SX.butlast_snoc l c

section
variable {P : Program} {w : World} {K : PySem.W.Frag} {mg : Str → Option Value} {base : Heap}
abbrev N_line_parts : List Str := ["line", "words", "label"]
theorem sc_line_parts : FnScope N_line_parts ["line"] (defScope s_line_parts) := ⟨rfl, rfl, rfl, by decide +kernel, rfl, by decide +kernel, by decide +kernel⟩
def sp_line_parts : Sp := fun vs H Q _ => ∃ (l : List Nat) (ws : List (List Nat)) (lab : Option (List Nat)) (rest : List (List Nat)), vs = [.str (S l)] ∧ l.length ≤ 100000 ∧ Toks l ws ∧ LabOf ws lab rest ∧ (∀ w ∈ ws, w ≠ [] ∧ w.length ≤ 1000 ∧ Asc w) ∧
  ∀ H' p q, Same H H' → H p = none → H q = none → H' p = some (.tup [oStr lab, .ref q]) → H' q = some (.lst (rest.map fun x => .str (S x))) → Q (.ref p) H'
theorem cal_line_parts (T : Tx w K mg) : C8.Cal P w K mg base 3 "line_parts" sp_line_parts [] := by
  have c_line_words := cal_line_words (P := P) (base := base) T
  have c_is_name_text := cal_is_name_text (P := P) (base := base) T
  refine cal_of (st := s_line_parts) (ps := ["line"]) T.d_line_parts T.m_line_parts sc_line_parts (fun _ _ _ _ _ _ us hl => match us, hl with | [_], _ => rfl) (fun vs H Q E h => ?_) (fun cdv A outer s H vs Q E hr h => ?_)
  · obtain ⟨l, ws, lab, rest, rfl, _⟩ := h
    rfl
  · obtain ⟨l, ws, lab, rest, rfl, hl, ht, hlab, hws, q⟩ := h
    refine ⟨_, (pss_cons (ps_set (i := 1) sc_line_parts.nd rfl (Or.inl rfl) (pe_c c_line_words hr (by decide) (by rfl) (pa_cons (pv 0) pa_nil)))
      (pss_cons (ps_if (pt_cmpR op_isN (pv 1) pe_non (nomark _))
        (pss_one (ps_ret pe_non))
        pss_nil)
      (pss_cons (ps_if (PW.pt (pw_or (pt_cmpR (op_eqD hr.units) (pv 1) (pe_lst pa_nil) (nomark _)) (pw_or1 (pt_cmpR op_ne (pe_ix ix_str (pe_ix ix_list (pv 1) pe_int (fun _ _ => rfl)) (pe_un un_neg pe_int) (fun _ _ => rfl)) pe_str (nomark _)))))
        (pss_one (ps_ret (pe_tup (pa_cons pe_non (pa_cons (pv 1) pa_nil)))))
        pss_nil)
      (pss_cons (ps_set (i := 2) sc_line_parts.nd rfl (Or.inl rfl) (pe_slice sl_str (pe_ix ix_list (pv 1) pe_int (fun _ _ => rfl)) po_none (po_some (pe_un un_neg pe_int))))
      (pss_one (ps_ret (pe_ifExp (pt_val (pe_c c_is_name_text hr (by decide) (by rfl) (pa_cons (pv 2) pa_nil))) (pe_tup (pa_cons (pv 2) (pa_cons (pe_slice sl_list (pv 1) (po_some pe_int) po_none) pa_nil))) pe_non))))))), ?_⟩
    have hlen : ws.length ≤ 100000 := Nat.le_trans (toks_len ht) hl
    refine ⟨_, rfl, l, ws, rfl, hl, ht, fun H1 W s1 nW eW => ?_⟩
    refine ⟨_, rfl, rfl, _, rfl, iteF ?_⟩
    refine ⟨_, rfl, Nat.zero_le _, fun p np => ?_⟩
    generalize hH : upd _ p _ = H2
    have s2 := new_same hH np
    have e2 := new_at hH
    have eW2 := s2 _ _ eW
    refine ⟨_, _, .lst (.inl (.inl eW2)) (dp_strs _ _ ws), .lst (.inl (.inl e2)) .nil, (sh_strs fun x hx => (hws x hx).2.2).shaped (by decide), sh_nil.shaped (by decide), _, rfl, ?_⟩
    rw [eqv_nil]
    have lab0 : ∀ H3 : Hp, Same H1 H3 → lab = none → rest = ws → _ := fun H3 s3 h1 h2 => (?_ : tRet (tTup (tCons (tC .non) (tCons (tVar 1) tNil))) { nx := fun _ H' => Q .non H', rt := Q } [some (.str (S l)), some (.ref W), none] H3)
    · match ws, hlab, hws, eW, eW2, hlen with
      | [], hlab, _, eW, eW2, _ =>
        refine iteT (iteT ?_)
        rcases hlab with ⟨h1, h2, _⟩ | ⟨n, _, h, _⟩
        · exact lab0 H2 s2 h1 h2
        · cases h
      | w :: r, hlab, hws, eW, eW2, hlen =>
        obtain ⟨hw0, hw1, hw2⟩ := hws w List.mem_cons_self
        refine iteF ?_
        obtain ⟨c, hc⟩ : ∃ c, w.getLast? = some c := by
          cases e : w.getLast? with
          | none => exact absurd (List.getLast?_eq_none_iff.mp e) hw0
          | some c => exact ⟨c, rfl⟩
        have hwz : (S w).length ≤ sizeLine := by rw [S_len]; exact sz (by omega)
        refine ⟨_, rfl, W, _, 0, .str (S w), rfl, rfl, .inl (.inl eW2), atI_nat (j := 0) rfl, _, rfl, _, _, c, rfl, rfl, hwz, last_at hc, ?_⟩
        rw [str_colon]
        refine ⟨rfl, _, rfl, ?_⟩
        show if (!decide (V.str (S [c]) = V.str (S [58]))) = true then _ else _
        rw [dec_S]
        rcases hlab with ⟨h1, h2, h3⟩ | ⟨n, h1, h2, h3⟩
        · have hn : ¬ [c] = [58] := fun z => h3 w r rfl (by rw [hc, (List.cons.inj z).1])
          exact iteNT hn (lab0 H2 s2 h1 h2)
        · obtain ⟨ew, er⟩ := List.cons.inj h2
          have hc58 : [c] = [58] := by
            rw [ew, List.getLast?_concat] at hc
            rw [Option.some.inj hc]
          refine iteNF hc58 ?_
          refine ⟨_, rfl, W, _, 0, .str (S w), rfl, rfl, .inl (.inl eW2), atI_nat (j := 0) rfl, _, rfl, _, rfl, _, rfl, hwz, ?_⟩
          dsimp only
          rw [ew, cut_butlast]
          refine ⟨_, rfl, n, rfl, ?_, fun H3 s3 => ⟨_, rfl, ?_⟩⟩
          · rw [ew] at hw1
            simp at hw1
            omega
          · have eW3 := s3 _ _ eW2
            show if isNameM n = true then _ else _
            rw [h3]
            refine iteT ⟨_, rfl, _, rfl, _, rfl, W, _, rfl, .inl (.inl eW3), fun t nt => ?_⟩
            generalize hH4 : upd _ t _ = H4
            have s4 := new_same hH4 nt
            have e4 := new_at hH4
            refine ⟨sz (by show 2 ≤ 1000000; decide), fun u nu => ?_⟩
            generalize hH5 : upd _ u _ = H5
            have s5 := new_same hH5 nu
            have e5 := new_at hH5
            have s13 := s1.trans (s2.trans s3)
            refine q H5 u t (s13.trans (s4.trans s5)) (s13.free (s4.free nu)) (s13.free nt) (by rw [e5, h1]; rfl) ?_
            rw [s5 _ _ e4]
            show some (HO.lst (cutV ((w :: r).map _) (some ((1 : Nat) : Int)) none)) = _
            unfold cutV
            rw [HT.sIx_nat, HT.sIx_none, er]
            simp
            exact List.take_of_length_le (by simp)
    · refine ⟨_, rfl, sz (by show 2 ≤ 1000000; decide), fun u nu => ?_⟩
      generalize hH5 : upd _ u _ = H5
      have s5 := new_same hH5 nu
      have e5 := new_at hH5
      exact q H5 u W (s1.trans (s3.trans s5)) (s1.free (s3.free nu)) nW (by rw [e5, h1]; rfl) (by rw [h2]; exact s5 _ _ (s3 _ _ eW))
end
end K21
/-! ## WF -/
set_option Elab.async false
set_option linter.all false
set_option maxRecDepth 100000
set_option maxHeartbeats 4000000
namespace K21
open PySem PySem.Spec PyProof.Rows L2 C8
local macro_rules | `(tactic| walk_at "adv") => `(tactic| repeat (first | refine ⟨_, rfl, ?_⟩ | refine ⟨rfl, ?_⟩ | refine ⟨_, _, rfl, rfl, ?_⟩ | refine iteT ?_ | refine iteF ?_))

theorem str_plus : ("+" : Str) = S [43] := by decide +kernel
/-- a name, a sign, figures; none: it isn't one of this sign -/
def sideM (b : Nat) (l : List Nat) : Option (Option (List Nat × Int)) := match TL.par [b] [] l with
  | none => none
  | some (p, f) => if isNameM p = true then (if digM f decimal 6 = true then some (some (p, ((PySem.NumText.digitsVal f : Nat) : Int))) else some none) else none
abbrev Val : Type := Option (List Nat) × Int
def valM (l : List Nat) : Option Val := match numM l with
  | some n => some (none, n)
  | none => match sideM 43 l with
    | some r => r.map fun z => (some z.1, z.2)
    | none => match sideM 45 l with
      | some r => r.map fun z => (some z.1, 0 - z.2)
      | none => if isNameM l = true then some (some l, 0) else none
theorem par_len {b : Nat} : ∀ {l acc p q : List Nat}, TL.par [b] acc l = some (p, q) → p.length ≤ acc.length + l.length ∧ q.length ≤ l.length
  | [], acc, p, q, h => by cases h
  | c :: r, acc, p, q, h => by
    unfold TL.par at h
    split at h
    · have := Option.some.inj h
      cases this
      simp
    · obtain ⟨h1, h2⟩ := par_len h
      simp at h1 ⊢
      omega
def ValAt (H : Hp) (a : Addr) (v : Val) : Prop := H a = some (.tup [oStr v.1, .int v.2])

section
variable {P : Program} {w : World} {K : PySem.W.Frag} {mg : Str → Option Value} {base : Heap}
abbrev N_value_in : List Str := ["word", "number", "sign", "name", "found", "figures"]
theorem sc_value_in : FnScope N_value_in ["word"] (defScope s_value_in) := ⟨rfl, rfl, rfl, by decide +kernel, rfl, by decide +kernel, by decide +kernel⟩
def sp_value_in : Sp := fun vs H Q _ => ∃ (l : List Nat) (v : Val), vs = [.str (S l)] ∧ l.length ≤ 100000 ∧ valM l = some v ∧ ∀ H' p, Same H H' → H p = none → ValAt H' p v → Q (.ref p) H'
def VinInv (l : List Nat) (H : Hp) (i : Nat) (σ : L2.St) (H2 : Hp) : Prop := ∃ y1 y2 y3 y4, σ = [some (.str (S l)), some .non, y1, y2, y3, y4] ∧ Same H H2 ∧ (0 < i → sideM 43 l = none) ∧ (1 < i → sideM 45 l = none)
theorem cal_value_in (T : Tx w K mg) : C8.Cal P w K mg base 3 "value_in" sp_value_in [] := by
  have c_number_text := cal_number_text (P := P) (base := base) T
  have c_is_name_text := cal_is_name_text (P := P) (base := base) T
  have c_is_digits := cal_is_digits (P := P) (base := base) T
  refine cal_of (st := s_value_in) (ps := ["word"]) T.d_value_in T.m_value_in sc_value_in (fun _ _ _ _ _ _ us hl => match us, hl with | [_], _ => rfl) (fun vs H Q E h => ?_) (fun cdv A outer s H vs Q E hr h => ?_)
  · obtain ⟨l, v, rfl, _⟩ := h
    rfl
  · obtain ⟨l, v, rfl, hl, hv, q⟩ := h
    refine ⟨_, (pss_cons (ps_set (i := 1) sc_value_in.nd rfl (Or.inl rfl) (pe_c c_number_text hr (by decide) (by rfl) (pa_cons (pv 0) pa_nil)))
      (pss_cons (ps_if (pt_cmpR op_notN (pv 1) pe_non (nomark _))
        (pss_one (ps_ret (pe_tup (pa_cons pe_non (pa_cons (pv 1) pa_nil)))))
        pss_nil)
      (pss_cons (ps_for PassesOwn.never rfl (pi_tup (pe_tup (pa_cons pe_str (pa_cons pe_str pa_nil)))) (pg_name (i := 2) sc_value_in.nd rfl (Or.inl rfl))
        (pss_cons (ps_asg (pe_partition (pv 0) (pv 2)) (pg_tup rfl (pgs_cons (pg_name (i := 3) sc_value_in.nd rfl (Or.inl rfl)) (pgs_cons (pg_name (i := 4) sc_value_in.nd rfl (Or.inl rfl)) (pgs_cons (pg_name (i := 5) sc_value_in.nd rfl (Or.inl rfl)) pgs_nil)))))
        (pss_one (ps_if (PW.pt (pw_and (pt_cmpR op_eq (pv 4) (pv 2) (nomark _)) (pw_and1 (pt_val (pe_c c_is_name_text hr (by decide) (by rfl) (pa_cons (pv 3) pa_nil))))))
          (pss_cons (ps_if (pt_not (pt_val (pe_c c_is_digits hr (by decide) (by rfl) (pa_cons (pv 5) (pa_cons (pe_gc (by rfl) T.v_DECIMAL) (pa_cons (pe_gc (by rfl) T.v_MOST_DECIMAL) pa_nil))))))
            (pss_one (ps_ret pe_non))
            pss_nil)
          (pss_one (ps_ret (pe_tup (pa_cons (pv 3) (pa_cons (pe_ifExp (pt_cmpR op_eq (pv 2) pe_str (nomark _)) (pe_callTy call_int_str (by rfl) T.f_int (by decide +kernel) (pa_cons (pv 5) pa_nil)) (pe_op op_sub pe_int (pe_callTy call_int_str (by rfl) T.f_int (by decide +kernel) (pa_cons (pv 5) pa_nil)))) pa_nil))))))
          pss_nil))))
      (pss_one (ps_ret (pe_ifExp (pt_val (pe_c c_is_name_text hr (by decide) (by rfl) (pa_cons (pv 0) pa_nil))) (pe_tup (pa_cons (pv 0) (pa_cons pe_int pa_nil))) pe_non)))))), ?_⟩
    have hz : (S l).length ≤ sizeLine := by rw [S_len]; exact sz (by omega)
    have mk : ∀ (H1 : Hp) (Q' : VK), Same H H1 → (∀ H' p, Same H H' → H p = none → ValAt H' p v → Q' (.ref p) H') → ∀ p, H1 p = none → Q' (.ref p) (upd H1 p (.tup [oStr v.1, .int v.2])) := fun H1 Q' s1 k p np => k _ p (s1.trans (same_new np)) (s1.free np) upd_same
    refine ⟨_, rfl, l, rfl, hl, fun H1 s1 => ?_⟩
    unfold valM at hv
    cases hn : numM l with
    | some n =>
      rw [hn] at hv
      have ev : v = (none, n) := (Option.some.inj hv).symm
      subst ev
      refine ⟨_, rfl, rfl, _, rfl, iteT ⟨_, rfl, sz (by show 2 ≤ 1000000; decide), fun p np => mk H1 Q s1 q p np⟩⟩
    | none =>
      rw [hn] at hv
      refine ⟨_, rfl, rfl, _, rfl, iteF ?_⟩
      rw [str_plus, str_minus]
      refine ⟨sz (by show 2 ≤ 1000000; decide), fun t nt => ?_⟩
      generalize hT : upd _ t _ = H2
      have s2 := new_same hT nt
      have e2 := new_at hT
      refine ⟨t, rfl, ⟨_, .inl (.inl e2)⟩, ?_⟩
      refine for_it (walk_tup (xs := [.str (S [43]), .str (S [45])])) (VinInv l H2) ⟨_, _, _, _, rfl, Same.refl _, fun h => absurd h (by decide), fun h => absurd h (by decide)⟩ (fun i σ H3 _ h => ?_) (fun i x σ H3 H4 hi h y => ?_) (fun σ H3 h => ?_)
      · obtain ⟨_, _, _, _, _, s3, _⟩ := h
        exact .inl (.inl (s3 _ _ e2))
      · obtain ⟨y1, y2, y3, y4, rfl, s3, c1, c2⟩ := h
        obtain ⟨rfl, ex⟩ := y
        obtain ⟨b, rfl, hb⟩ : ∃ b, x = .str (S [b]) ∧ ((i = 0 ∧ b = 43) ∨ (i = 1 ∧ b = 45)) := by
          match i, hi with
          | 0, _ => exact ⟨43, (Option.some.inj ex).symm, .inl ⟨rfl, rfl⟩⟩
          | 1, _ => exact ⟨45, (Option.some.inj ex).symm, .inr ⟨rfl, rfl⟩⟩
        have s13 := s1.trans (s2.trans s3)
        refine ⟨_, rfl, ⟨_, rfl⟩, _, rfl, _, _, rfl, rfl, rfl, hz, fun u nu => ?_⟩
        have next : ∀ (σ' : L2.St) (H5 : Hp), (∃ y1 y2 y3 y4, σ' = [some (.str (S l)), some .non, y1, y2, y3, y4]) → Same H4 H5 → sideM b l = none → VinInv l H2 (i + 1) σ' H5 := fun σ' H5 h1 h2 h3 => by
          obtain ⟨z1, z2, z3, z4, ez⟩ := h1
          refine ⟨z1, z2, z3, z4, ez, s3.trans h2, fun _ => ?_, fun hi2 => ?_⟩
          · rcases hb with ⟨_, eb⟩ | ⟨ei, eb⟩
            · rw [← eb]; exact h3
            · exact c1 (by omega)
          · rcases hb with ⟨ei, _⟩ | ⟨_, eb⟩
            · omega
            · rw [← eb]; exact h3
        cases hp : TL.par [b] [] l with
        | none =>
          rw [SX.partition_none (by simp) hp]
          dsimp only
          generalize hU : upd _ u _ = H5
          have s5 := new_same hU nu
          have e5 := new_at hU
          refine ⟨u, _, rfl, .inl (.inl e5), rfl, _, _, rfl, _, _, rfl, _, _, rfl, rfl, ?_⟩
          refine ⟨_, rfl, _, rfl, rfl, _, rfl, ?_⟩
          rw [dec_S]
          refine iteDF (by simp) (iteF (next _ _ ⟨_, _, _, _, rfl⟩ s5 ?_))
          unfold sideM
          rw [hp]
        | some pq =>
          obtain ⟨nm, f⟩ := pq
          obtain ⟨l1, l2⟩ := par_len hp
          simp at l1
          rw [SX.partition_some (by simp) hp]
          dsimp only
          generalize hU : upd _ u _ = H5
          have s5 := new_same hU nu
          have e5 := new_at hU
          refine ⟨u, _, rfl, .inl (.inl e5), rfl, _, _, rfl, _, _, rfl, _, _, rfl, rfl, ?_⟩
          refine ⟨_, rfl, _, rfl, rfl, _, rfl, iteDT rfl ?_⟩
          refine ⟨_, rfl, nm, rfl, by omega, fun H6 s6 => ⟨_, rfl, ?_⟩⟩
          have s56 := s5.trans s6
          have eS : sideM b l = if isNameM nm = true then (if digM f decimal 6 = true then some (some (nm, ((PySem.NumText.digitsVal f : Nat) : Int))) else some none) else none := by
            unfold sideM
            rw [hp]
          refine iteB (fun h1 => ?_) fun h1 => ?_
          · rw [if_pos h1] at eS
            refine ⟨_, rfl, f, _, _, rfl, by omega, fun H7 s7 => ⟨_, rfl, ?_⟩⟩
            refine iteNB (fun h2 => ?_) fun h2 => ?_
            · exfalso
              rw [if_neg (fun z => by rw [show digM f decimal 6 = false from h2] at z; cases z)] at eS
              rcases hb with ⟨ei, eb⟩ | ⟨ei, eb⟩
              · rw [eb] at eS
                rw [eS] at hv
                cases hv
              · rw [c1 (by omega)] at hv
                rw [eb] at eS
                rw [eS] at hv
                cases hv
            · have h2' : digM f decimal 6 = true := h2
              rw [if_pos h2'] at eS
              obtain ⟨g1, g2⟩ := int_of h2'
              refine ⟨_, rfl, _, rfl, rfl, _, rfl, ?_⟩
              rw [dec_S]
              rcases hb with ⟨ei, eb⟩ | ⟨ei, eb⟩
              · subst eb
                rw [eS] at hv
                have ev : v = (some nm, ((PySem.NumText.digitsVal f : Nat) : Int)) := (Option.some.inj hv).symm
                subst ev
                exact iteDT rfl ⟨_, rfl, _, _, rfl, g1, g2, sz (by show 2 ≤ 1000000; decide), fun p np => mk _ Q (s13.trans (s56.trans s7)) q p np⟩
              · subst eb
                rw [c1 (by omega)] at hv
                rw [eS] at hv
                have ev : v = (some nm, 0 - ((PySem.NumText.digitsVal f : Nat) : Int)) := (Option.some.inj hv).symm
                subst ev
                exact iteDF (by simp) ⟨_, rfl, _, _, rfl, g1, g2, _, _, rfl, rfl, sz (by show 2 ≤ 1000000; decide), fun p np => mk _ Q (s13.trans (s56.trans s7)) q p np⟩
          · refine next _ _ ⟨_, _, _, _, rfl⟩ s56 ?_
            rw [eS, if_neg (fun z => by rw [h1] at z; cases z)]
      · obtain ⟨y1, y2, y3, y4, rfl, s3, c1, c2⟩ := h
        rw [c1 (by decide), c2 (by decide)] at hv
        refine ⟨_, rfl, l, rfl, hl, fun H4 s4 => ⟨_, rfl, ?_⟩⟩
        by_cases hN : isNameM l = true
        · have hv2 : (if isNameM l = true then some ((some l, 0) : Val) else none) = some v := hv
          rw [if_pos hN] at hv2
          have ev : v = (some l, 0) := (Option.some.inj hv2).symm
          subst ev
          rw [hN]
          exact iteT ⟨_, rfl, sz (by show 2 ≤ 1000000; decide), fun p np => mk _ Q (s1.trans (s2.trans (s3.trans s4))) q p np⟩
        · exfalso
          have hv2 : (if isNameM l = true then some ((some l, 0) : Val) else none) = some v := hv
          rw [if_neg hN] at hv2
          cases hv2
end
end K21
/-! ## K21Stm -/
set_option Elab.async false
set_option linter.all false
set_option maxRecDepth 100000
set_option maxHeartbeats 4000000
namespace K21
open PySem PySem.Spec PyProof.Rows L2
/-! statements and names as they lie in the heap -/
theorem keep_tup {Sx : List Addr} {H H' : Hp} {a : Addr} {xs : List V} (k : Keep Sx H H') (n : a ∉ Sx) (h : H a = some (.tup xs)) : H' a = some (.tup xs) := k _ _ n h
/-- places that are changed hold no tuples -/
def NoTup (Sx : List Addr) (H : Hp) : Prop := ∀ a ∈ Sx, ∀ xs, H a ≠ some (.tup xs)
theorem NoTup.out {Sx : List Addr} {H : Hp} (n : NoTup Sx H) {a : Addr} {xs : List V} (h : H a = some (.tup xs)) : a ∉ Sx := fun m => n a m xs h
theorem NoTup.nil {H : Hp} : NoTup [] H := fun a m => by simp at m
theorem NoTup.one {H : Hp} {D : Addr} {xs : List V} (h : H D = some (.lst xs)) : NoTup [D] H := fun a m ys e => by
  have : a = D := by simpa using m
  rw [this, h] at e
  cases e
def Each {α : Type} (R : V → α → Hp → Prop) (H : Hp) (ys : List V) (ds : List α) : Prop := ys.length = ds.length ∧ ∀ (i : Nat) (y : V) (d : α), ys[i]? = some y → ds[i]? = some d → R y d H
theorem Each.imp {α : Type} {R R' : V → α → Hp → Prop} {H H' : Hp} {ys : List V} {ds : List α} (h : Each R H ys ds) (k : ∀ y d, R y d H → R' y d H') : Each R' H' ys ds := ⟨h.1, fun i y d h1 h2 => k y d (h.2 i y d h1 h2)⟩
theorem Each.nil {α : Type} {R : V → α → Hp → Prop} {H : Hp} : Each R H [] [] := ⟨rfl, fun i y d h => by simp at h⟩
theorem Each.snoc {α : Type} {R : V → α → Hp → Prop} {H : Hp} {ys : List V} {ds : List α} {y : V} {d : α} (h : Each R H ys ds) (r : R y d H) : Each R H (ys ++ [y]) (ds ++ [d]) := by
  refine ⟨by simp [h.1], fun i z e h1 h2 => ?_⟩
  by_cases hi : i < ys.length
  · rw [List.getElem?_append_left hi] at h1
    rw [List.getElem?_append_left (by rw [← h.1]; exact hi)] at h2
    exact h.2 i z e h1 h2
  · have hi2 : i = ys.length := by
      have := (List.getElem?_eq_some_iff.mp h1).1
      simp at this
      omega
    subst hi2
    have hl := h.1
    rw [hl] at h2
    simp at h1 h2
    subst h1 h2
    exact r
theorem Each.cons {α : Type} {R : V → α → Hp → Prop} {H : Hp} {y : V} {ys : List V} {d : α} {ds : List α} (h : Each R H (y :: ys) (d :: ds)) : R y d H ∧ Each R H ys ds :=
  ⟨h.2 0 y d rfl rfl, by simpa using h.1, fun i z e h1 h2 => h.2 (i + 1) z e (by simpa using h1) (by simpa using h2)⟩
theorem Each.cons' {α : Type} {R : V → α → Hp → Prop} {H : Hp} {y : V} {ys : List V} {d : α} {ds : List α} (h : R y d H) (t : Each R H ys ds) : Each R H (y :: ys) (d :: ds) := by
  refine ⟨by simp [t.1], fun i z e h1 h2 => ?_⟩
  match i with
  | 0 =>
    simp at h1 h2
    subst h1 h2
    exact h
  | i + 1 => exact t.2 i z e (by simpa using h1) (by simpa using h2)
def ValR (y : V) (v : Val) (H : Hp) : Prop := ∃ a, y = .ref a ∧ ValAt H a v
theorem ValR.keep {Sx : List Addr} {H H' : Hp} (n : NoTup Sx H) (k : Keep Sx H H') {y : V} {v : Val} (h : ValR y v H) : ValR y v H' := by
  obtain ⟨a, e, h⟩ := h
  exact ⟨a, e, k _ _ (n.out h) h⟩
/-- a list of values, at a place of which F holds -/
def ValsAt (F : Addr → Prop) (H : Hp) (L : Addr) (vs : List Val) : Prop := F L ∧ ∃ ys, H L = some (.lst ys) ∧ Each ValR H ys vs
theorem ValsAt.keep {Sx : List Addr} {F : Addr → Prop} {H H' : Hp} (n : NoTup Sx H) (k : Keep Sx H H') (hF : ∀ a, F a → a ∉ Sx) {L : Addr} {vs : List Val} (h : ValsAt F H L vs) : ValsAt F H' L vs := by
  obtain ⟨f, ys, e, he⟩ := h
  exact ⟨f, ys, k _ _ (hF _ f) e, he.imp fun y d r => r.keep n k⟩
theorem ValsAt.imp {F F' : Addr → Prop} {H : Hp} (hF : ∀ a, F a → F' a) {L : Addr} {vs : List Val} (h : ValsAt F H L vs) : ValsAt F' H L vs := ⟨hF _ h.1, h.2⟩
/-! names -/
abbrev Nm : Type := List Nat × Bool × Int
def sortS (b : Bool) : Str := if b = true then "label" else "number"
def NmR (H : Hp) (n : Nm) (kv : Key × V) : Prop := kv.1 = .inr (S n.1) ∧ ∃ t, kv.2 = .ref t ∧ H t = some (.tup [.str (sortS n.2.1), .int n.2.2])
def NamesAt (H : Hp) (N : Addr) (ns : List Nm) : Prop := ∃ kvs, H N = some (.dK kvs) ∧ Paired (NmR H) ns kvs
theorem NmR.keep {Sx : List Addr} {H H' : Hp} (n : NoTup Sx H) (k : Keep Sx H H') {a : Nm} {kv : Key × V} (h : NmR H a kv) : NmR H' a kv := by
  obtain ⟨e, t, e2, h⟩ := h
  exact ⟨e, t, e2, k _ _ (n.out h) h⟩
theorem NamesAt.keep {Sx : List Addr} {H H' : Hp} (n : NoTup Sx H) (k : Keep Sx H H') {N : Addr} (hN : N ∉ Sx) {ns : List Nm} (h : NamesAt H N ns) : NamesAt H' N ns := by
  obtain ⟨kvs, e, p⟩ := h
  exact ⟨kvs, k _ _ hN e, Paired.mapP p fun a b r => r.keep n k⟩
def look (ns : List Nm) (x : List Nat) : Option (Bool × Int) := (ns.find? fun n => decide (n.1 = x)).map (·.2)
theorem look_cons (n : Nm) (ns : List Nm) (x : List Nat) : look (n :: ns) x = if n.1 = x then some n.2 else look ns x := by
  unfold look
  rw [List.find?_cons]
  by_cases h : n.1 = x
  · rw [decide_eq_true h, if_pos h]
    rfl
  · rw [decide_eq_false h, if_neg h]
theorem names_look {H : Hp} {ns : List Nm} {kvs : List (Key × V)} (p : Paired (NmR H) ns kvs) (x : List Nat) :
    (look ns x = none ∧ valV kvs (.inr (S x)) = none) ∨ ∃ z t, look ns x = some z ∧ valV kvs (.inr (S x)) = some (.ref t) ∧ H t = some (.tup [.str (sortS z.1), .int z.2]) := by
  induction p with
  | nil => exact .inl ⟨rfl, rfl⟩
  | @cons n kv ns kvs h _ ih =>
    obtain ⟨e, t, e2, ht⟩ := h
    rw [look_cons]
    by_cases hx : n.1 = x
    · rw [if_pos hx]
      exact .inr ⟨n.2, t, rfl, by rw [valV_pos (by rw [e, hx]), e2], ht⟩
    · rw [if_neg hx, valV_neg (by rw [e]; intro z; exact hx (S_inj (Sum.inr.inj z)))]
      exact ih
theorem names_len {H : Hp} {ns : List Nm} {kvs : List (Key × V)} (p : Paired (NmR H) ns kvs) : kvs.length = ns.length := p.length.symm
/-- the worth of a value -/
def worthM (ns : List Nm) (v : Val) : Option Int := match v.1 with
  | none => some v.2
  | some n => (look ns n).map fun z => z.2 + v.2
/-! statements -/
inductive Stm where
  | words (vs : List Val)
  | equal (n : List Nat) (k : Int)
  | at_ (p : Int)
  | one (n : List Nat) (rs : List Nat) (vs : List Val)
  | set (r : Nat) (v : Val)
def Stm.size : Stm → Nat
  | .words vs => vs.length
  | .equal _ _ => 0
  | .at_ _ => 0
  | .one _ _ _ => 1
  | .set _ _ => 2
def Stm.kind : Stm → Str
  | .words _ => "words"
  | .equal _ _ => "equal"
  | .at_ _ => "at"
  | .one _ _ _ => "one"
  | .set _ _ => "set"
def ToldAt (F : Addr → Prop) (H : Hp) (y : V) : Stm → Prop
  | .words vs => ∃ L, y = .ref L ∧ ValsAt F H L vs
  | .equal n k => ∃ t, y = .ref t ∧ H t = some (.tup [.str (S n), .int k])
  | .at_ p => y = .int p
  | .one n rs vs => ∃ t R L, y = .ref t ∧ H t = some (.tup [.str (S n), .ref R, .ref L]) ∧ F R ∧ H R = some (.lst (rs.map fun r : Nat => V.int (r : Int))) ∧ ValsAt F H L vs
  | .set r v => ∃ t a, y = .ref t ∧ H t = some (.tup [.int (r : Int), .ref a]) ∧ ValAt H a v
theorem ToldAt.keep {Sx : List Addr} {F : Addr → Prop} {H H' : Hp} (n : NoTup Sx H) (k : Keep Sx H H') (hF : ∀ a, F a → a ∉ Sx) {y : V} : ∀ {st : Stm}, ToldAt F H y st → ToldAt F H' y st
  | .words vs, ⟨L, e, h⟩ => ⟨L, e, h.keep n k hF⟩
  | .equal m i, ⟨t, e, h⟩ => ⟨t, e, k _ _ (n.out h) h⟩
  | .at_ p, h => h
  | .one m rs vs, ⟨t, R, L, e, h1, f, h2, h3⟩ => ⟨t, R, L, e, k _ _ (n.out h1) h1, f, k _ _ (hF _ f) h2, h3.keep n k hF⟩
  | .set r v, ⟨t, a, e, h1, h2⟩ => ⟨t, a, e, k _ _ (n.out h1) h1, k _ _ (n.out h2) h2⟩
theorem ToldAt.imp {F F' : Addr → Prop} {H : Hp} (hF : ∀ a, F a → F' a) {y : V} : ∀ {st : Stm}, ToldAt F H y st → ToldAt F' H y st
  | .words vs, ⟨L, e, h⟩ => ⟨L, e, h.imp hF⟩
  | .equal m i, h => h
  | .at_ p, h => h
  | .one m rs vs, ⟨t, R, L, e, h1, f, h2, h3⟩ => ⟨t, R, L, e, h1, hF _ f, h2, h3.imp hF⟩
  | .set r v, h => h
def StmAt (F : Addr → Prop) (H : Hp) (p : Addr) (st : Stm) : Prop := ∃ y, H p = some (.tup [.str st.kind, .int (st.size : Int), y]) ∧ ToldAt F H y st
theorem StmAt.keep {Sx : List Addr} {F : Addr → Prop} {H H' : Hp} (n : NoTup Sx H) (k : Keep Sx H H') (hF : ∀ a, F a → a ∉ Sx) {p : Addr} {st : Stm} (h : StmAt F H p st) : StmAt F H' p st := by
  obtain ⟨y, e, h⟩ := h
  exact ⟨y, k _ _ (n.out e) e, h.keep n k hF⟩
theorem StmAt.same {F : Addr → Prop} {H H' : Hp} (s : Same H H') {p : Addr} {st : Stm} (h : StmAt F H p st) : StmAt F H' p st := h.keep NoTup.nil (Keep.of_same s) fun a _ => by simp
end K21
/-! ## K21Rules -/
set_option Elab.async false
set_option linter.all false
set_option maxRecDepth 100000
set_option maxHeartbeats 4000000
namespace K21
open PySem PySem.Spec PyProof.Rows L2 C8
/-! rules of our own -/
/-- the values of a written dict, by its keys -/
theorem keys_pairs {P : Program} {w : World} : ∀ {l : List DictEntry} {ks : List Str}, l.map He.keyOf = He.keysIn w.params ks → Pairs (strKind P w) l (ks.zip (l.map (·.val))) ∧ (∀ e ∈ l, ∃ k, (strKind P w).is k e.key = true ∧ e.hash = (strKind P w).hash k) ∧ l.length = ks.length
  | [], [], _ => ⟨.nil, fun e h => by simp at h, rfl⟩
  | [], _ :: _, h => by cases h
  | _ :: _, [], h => by cases h
  | e :: r, k :: ks, h => by
    have h1 : He.keyOf e :: r.map He.keyOf = some (k, PyData.keyHash w.params k) :: He.keysIn w.params ks := h
    injection h1 with h2 h3
    obtain ⟨g1, g2, g3⟩ := keys_pairs h3
    obtain ⟨t, e1, e2⟩ : ∃ t, e.key = .str k t ∧ e.hash = PyData.keyHash w.params k := by
      unfold He.keyOf at h2
      split at h2
      · rename_i x t q
        have h4 := Option.some.inj h2
        obtain ⟨h5, h6⟩ := Prod.mk.inj h4
        exact ⟨t, by rw [q, h5], h6⟩
      · cases h2
    have hk : (strKind P w).is k e.key = true := by
      rw [e1]
      exact strKind_is P w k t
    refine ⟨.cons hk rfl g1, fun x hx => ?_, by simp [g3]⟩
    rcases List.mem_cons.mp hx with z | z
    · exact ⟨k, by rw [z]; exact hk, by rw [z]; exact e2⟩
    · exact g2 x z
/-- list(d), d a written dict with text keys -/
theorem call_list_kd {X : Cx} (hc : X.calm = true) : CallR X (.type "list") (fun xs H Q => ∃ (d : Addr) (es : Array DictEntry) (n : Nat) (ks : List Str), xs = [.ref d] ∧ KDict X.K X.w d es n ∧ es.toList.map He.keyOf = He.keysIn X.w.params ks ∧ ks.Nodup ∧ ks.length ≤ 1000 ∧
    ∀ p, H p = none → Q (.ref p) (upd H p (.lst (ks.map V.str)))) := by
  intro pins s σ H xs us Q I r h
  obtain ⟨d, es, n, ks, ex, D, hk, hnd, hlen, q⟩ := h
  subst ex
  obtain ⟨u, eu, rx⟩ := vals1 r
  subst eu
  cases rx
  obtain ⟨g1, g2, g3⟩ := keys_pairs (P := X.prog) hk
  have hz : (ks.zip (es.toList.map (·.val))).map (·.1) = ks := List.map_fst_zip (by simp at g3 ⊢; omega)
  have hat : s.heap.DictAt (strKind X.prog X.w) d (ks.zip (es.toList.map (·.val))) n := ⟨_, es, I.kIn _ _ D.at_, ⟨rfl, rfl, rfl⟩, rfl, fun e he => g2 e (Array.mem_toList_iff.mpr he), g1, by rw [hz]; exact hnd⟩
  have hl2 : (ks.zip (es.toList.map (·.val))).length = ks.length := by
    have := congrArg List.length hz
    simpa using this
  refine PySem.W.kdl_call (PySem.W.kdl_dict (knd := strKind X.prog X.w) (kvs := ks.zip (es.toList.map (·.val))) (ep := n) D.low) (I.ok.hd hc) hat (by rw [hl2]; exact sz (by omega)) fun h' tk acc c' hkp hD hacc => ?_
  have hv : Vals (ks.map V.str) acc.toList := by
    have hal : acc.toList.length = ks.length := by rw [Array.length_toList, hacc.1, hl2]
    have step : ∀ (ks : List Str) (vs : List Value), vs.length = ks.length → (∀ (j : Nat) (k : Str), ks[j]? = some k → ∃ (v : Value) (t : Tok), vs[j]? = some v ∧ v = Value.str k t) → Vals (ks.map V.str) vs := by
      intro ks
      induction ks with
      | nil =>
        intro vs hl _
        have : vs = [] := List.eq_nil_of_length_eq_zero hl
        rw [this]
        exact .nil
      | cons k ks ih =>
        intro vs hl hh
        cases vs with
        | nil => cases hl
        | cons v vs =>
          obtain ⟨v1, t, e1, e2⟩ := hh 0 k rfl
          have : v = v1 := by simpa using e1
          subst this
          exact .cons ⟨t, e2⟩ (ih vs (by simpa using hl) fun j k hj => hh (j + 1) k hj)
    refine step ks acc.toList hal fun j k hj => ?_
    have hlt : j < acc.toList.length := by
      rw [hal]
      exact (List.getElem?_eq_some_iff.mp hj).1
    obtain ⟨k2, x, e1, e2⟩ := hacc.2 j (acc.toList[j]) (by rw [← Array.getElem?_toList, List.getElem?_eq_getElem hlt])
    have e3 : k2 = k := by
      have h5 : ((ks.zip (es.toList.map (·.val))).map (·.1))[j]? = some k2 := by rw [List.getElem?_map, e1]; rfl
      rw [hz, hj] at h5
      exact (Option.some.inj h5).symm
    subst e3
    obtain ⟨t, et⟩ := Value.isStrOf_shape e2
    exact ⟨_, t, List.getElem?_eq_getElem hlt, et⟩
  exact ⟨.ref s.heap.objs.size, upd H s.heap.objs.size (.lst (ks.map V.str)), I.laid (t' := tk) hkp (Nat.le_refl _) (show ObjOk X.prog X.w _ _ _ (.lst (ks.map V.str)) from ⟨by rw [List.length_map]; exact sz (by omega), acc.toList, c', hv, by rw [Array.toArray_toList]; exact hD⟩), rfl, q _ (I.hok.fresh (Nat.le_refl _))⟩
/-! a call by one keyword alone -/
structure CalK (P : Program) (w : World) (K : PySem.W.Frag) (mg : Str → Option Value) (base : Heap) (k : Nat) (x kw : Str) (sp : Sp) : Prop where
  ex : ∃ (f : Addr) (fd : FuncData) (ps : List Str), FnOk P w K mg base L2.CX0 k f fd ps sp ∧ mg x = some (.ref f) ∧ PySem.W.keepIn K (.ref f) = true ∧ KBinds K fd ps [kw] (fun us ws => us ++ ws) (fun us ws => us ++ ws)
theorem pe_ck {X : Cx} {k j : Nat} {x kw : Str} {sp : Sp} {p pos : Pos} {kws : List Keyword} {tk : TA} (c : CalK X.prog X.w X.K X.mg X.base k x kw sp) (hr : Room j X.A) (hk : k ≤ j) (hg : Gl X x) (hkw : PK X kws tk)
    (hall : (backToKw pos (keywordEach kws X.env)).all (·.1.isSome) = true := by rfl) (hks : (backToKw pos (keywordEach kws X.env)).filterMap (·.1) = [kw] := by rfl) (hdb : (x == ("__debug__" : Str)) = false := by decide)
    (hpl : ((backTo pos (starEach [] X.env)).any (·.1) || (backToKw pos (keywordEach kws X.env)).any (·.1.isNone)) = false := by rfl) :
    PE X (.Call (.Name x p) [] kws pos) (fun σ H Q => tk σ H fun zs H2 => sp zs H2 Q L2.E0) := by
  obtain ⟨f, fd, ps, F, hm, kp, hb⟩ := c.ex
  refine ⟨fun pins s σ H Q I h => ?_⟩
  refine wpAny_Call_Name_kw (ld_glob I hg hm ?_ hdb)
  refine PySem.W.callWith_KW0 (h₀ := X.base) I.ok.mod.kin kp hall (thn (hkw.run pos pins s σ H _ I h) fun ws s2 ⟨zs, H2, I2, rz, q2⟩ => ⟨I2.kIn, ?_⟩) hpl
  rw [hks]
  exact run_fnk (vs := []) (us := []) F (hr.mono hk) hb L2.pass0 I2 .nil rz q2
theorem calk_of {P : Program} {w : World} {K : PySem.W.Frag} {mg : Str → Option Value} {base : Heap} {x kw : Str} {st : Stmt} {N : List Str} {k : Nat} {sp : Sp} (hd : ∃ fd, FunD K x x (defArgs st) (defBody st) (defScope st) [] [] (He.ga K x) fd) (hm : mg x = some (.ref (He.ga K x))) (S : FnScope N [kw] (defScope st))
    (hb : ∀ (kV doc pm : Value) (an : Option Addr) (cdv ct : Value) (us ws : List Value), (us ++ ws).length = 1 → bindArgs (PySem.W.fnOf x x (defArgs st) (defBody st) (defScope st) .none kV doc pm an cdv ct) ⟨us, [kw].zip ws⟩ = pure ([kw].zip (us ++ ws)))
    (len : ∀ vs H Q E, sp vs H Q E → vs.length = 1) (body : BodyOk P w K mg base k (He.ga K x) x st N sp) : CalK P w K mg base (k + 1) x kw sp := by
  obtain ⟨fd, F⟩ := hd
  refine ⟨_, fd, [kw], F.ok S len (fun cdv A outer s H vs Q E hr h => by
    obtain ⟨t, h1, h2⟩ := body cdv A outer s H vs Q E hr h
    exact ⟨t, PSs.nox h1, h2⟩), hm, F.kp, ⟨fun s us ws _ hl => ?_, fun r1 r2 => Vals.append r1 r2⟩⟩
  obtain ⟨oc, od, dV, kV, doc, pm, an, cdv, ct, osl, rfl, lk, hcd, hD, hK⟩ := F.ex
  rcases hD with ⟨_, rfl⟩ | ⟨e, _⟩
  · exact .of_eq (hb kV doc pm an cdv ct us ws hl)
  · exact absurd rfl e
theorem pe_c0 {X : Cx} {k j : Nat} {x : Str} {sp : Sp} {dvs : List V} {p pos : Pos} (c : C8.Cal X.prog X.w X.K X.mg X.base k x sp dvs) (hr : Room j X.A) (hk : k ≤ j) (hg : Gl X x) (hdb : (x == ("__debug__" : Str)) = false := by decide) :
    PE X (.Call (.Name x p) [] [] pos) (tCall sp dvs L2.E0 tNil) := by
  obtain ⟨f, fd, ps, ds, F, hm, kp, b, d⟩ := c.ex
  exact pe_call0 F (hr.mono hk) hg hm kp b d L2.pass0 hdb
theorem pe_mk0 {X : Cx} {k j : Nat} {C : Addr} {x : Str} {sp : Sp} {dvs : List V} {p pos : Pos} (c : C8.Mak X.prog X.w X.K X.mg X.base k x C sp dvs) (hr : Room j X.A) (hk : k + 1 ≤ j) (hg : Gl X x) (hdb : (x == ("__debug__" : Str)) = false := by decide) :
    PE X (.Call (.Name x p) [] [] pos) (tMake C sp dvs L2.E0 tNil) := by
  obtain ⟨f, fd, ps, ds, M, F, hm, b, d⟩ := c.ex
  exact pe_make0 M F (hr.mono hk) hg hm b d L2.pass0 hdb
end K21
/-! ## K21Ops -/
set_option Elab.async false
set_option linter.all false
set_option maxRecDepth 100000
set_option maxHeartbeats 4000000
namespace K21
open PySem PySem.Spec PyProof.Rows L2
/-! the operations: names, forms, shapes -/
def opsT : List (Str × Str) := [("add", "three"), ("sub", "three"), ("mul", "three"), ("div", "three"), ("and", "three"), ("or", "three"), ("xor", "three"), ("shl", "three"), ("shr", "three"), ("low", "three"), ("eq", "three"),
  ("addi", "near"), ("ld", "near"), ("st", "near"), ("jr", "near"), ("lim", "byte"), ("lhi", "byte"), ("bz", "far"), ("bnz", "far"), ("jal", "far"), ("sys", "call"), ("rdc", "control"), ("wrc", "control"), ("ret", "bare"), ("halt", "bare"), ("nop", "bare")]
theorem forms_ops : formsKV = opsT.map fun q => (q.1, He.Dv.str q.2) := rfl
def opNames : List Str := opsT.map (·.1)
theorem forms_names : formsKV.map (·.1) = opNames := rfl
theorem opNames_nd : opNames.Nodup := by decide +kernel
/-- regs and values by the form -/
def fshT : List (Str × (Nat × Nat)) := [("three", (3, 0)), ("near", (2, 1)), ("byte", (1, 1)), ("far", (1, 1)), ("call", (0, 1)), ("control", (1, 1)), ("bare", (0, 0))]
theorem fsh_ok : fshapesKV = fshT.map fun q => (q.1, [V.int q.2.1, V.int q.2.2]) := rfl
/-- regs, bits, least, most -/
def shT : List (Str × (Nat × Nat × Int × Int)) := [("three", (3, 0, 0, 0)), ("near", (2, 5, -16, 15)), ("byte", (1, 8, 0, 255)), ("far", (1, 8, -128, 127)), ("call", (0, 8, 0, 255)), ("control", (1, 8, 0, 7)), ("bare", (0, 0, 0, 0))]
theorem sh_ok : shapesKV = shT.map fun q => (q.1, [V.int q.2.1, V.int q.2.2.1, V.int q.2.2.2.1, V.int q.2.2.2.2]) := rfl
theorem dicW_more {K : PySem.W.Frag} {a : Addr} {l : List (Option (Str × Int))} (h : He.dicW K a = some l) : ∃ es n sl, K.lookup a = some ⟨.type "dict", none, .dict es n, sl⟩ ∧ es.toList.map He.keyOf = l := by
  unfold He.dicW at h
  cases q : K.lookup a with
  | none => rw [q] at h; cases h
  | some o =>
    obtain ⟨oc, od, dt, osl⟩ := o
    rw [q] at h
    cases oc with
    | type c =>
      cases od with
      | none =>
        cases dt with
        | dict es n =>
          have h1 : (match decide (c = "dict") && (osl.isEmpty && !(a == sysModules)) with
            | true => some (es.toList.map He.keyOf)
            | false => none) = some l := h
          cases z : decide (c = "dict") && (osl.isEmpty && !(a == sysModules)) with
          | false => rw [z] at h1; cases h1
          | true =>
            rw [z] at h1
            obtain ⟨z1, z2⟩ := He.ba z
            have e1 : c = "dict" := of_decide_eq_true z1
            subst e1
            exact ⟨es, n, osl, rfl, Option.some.inj h1⟩
        | _ => cases h
      | some b => cases dt <;> cases h
    | _ => cases od <;> cases dt <;> cases h
section
variable {w : World} {K : PySem.W.Frag} {mg : Str → Option Value}
theorem forms_keys (T : Tx w K mg) : ∃ es n, KDict K w (He.ga K "FORMS") es n ∧ es.toList.map He.keyOf = He.keysIn w.params opNames := by
  obtain ⟨es, n, D⟩ := T.k_FORMS
  have e : ts.map (fun t => He.dicW K (t.1 K)) = ts.map fun t => some (He.keysIn w.params t.2) := congrArg (fun z : He.AlT => z.2) T.ct
  have e0 : He.dicW K (He.ga K "FORMS") = some (He.keysIn w.params (formsKV.map (·.1))) := (List.cons.inj e).1
  obtain ⟨es2, n2, sl, h1, h2⟩ := dicW_more e0
  have h3 := D.at_.symm.trans h1
  cases h3
  exact ⟨es, n, D, h2⟩
theorem kdct {x key : Str} {v : V} {es : Array DictEntry} {n : Nat} {d : Addr} (D : KDict K w d es n) {u : Value} (e : PySem.W.nsIn K d key = some (some u)) (r : RelV v u) : KDct K w d key v := ⟨es, n, u, D.at_, D.lit, e, r⟩
theorem form_get (T : Tx w K mg) {n f : Str} (h : (n, f) ∈ opsT) : KDct K w (He.ga K "FORMS") n (.str f) ∧ ∃ u, PySem.W.nsIn K (He.ga K "FORMS") n = some (some u) := by
  obtain ⟨es, k, D⟩ := T.k_FORMS
  have hm : (n, He.Dv.str f) ∈ formsKV := by
    rw [forms_ops]
    exact List.mem_map.mpr ⟨_, h, rfl⟩
  obtain ⟨u, e, r⟩ := He.valsB_ok T.x1 hm
  exact ⟨kdct (x := n) D e r, u, e⟩
theorem fshape_get (T : Tx w K mg) {f : Str} {a b : Nat} (h : (f, (a, b)) ∈ fshT) : ∃ t, KDct K w (He.ga K "FORM_SHAPES") f (.ref t) ∧ ∀ H, SqT K H t [V.int a, V.int b] := by
  obtain ⟨es, k, D⟩ := T.k_FORM_SHAPES
  have hm : (f, [V.int a, V.int b]) ∈ fshapesKV := by
    rw [fsh_ok]
    exact List.mem_map.mpr ⟨_, h, rfl⟩
  obtain ⟨e, hS⟩ := T.tab (List.all_eq_true.mp T.x3 _ hm)
  exact ⟨_, kdct (x := f) D e rfl, hS⟩
theorem shape_get (T : Tx w K mg) {f : Str} {a b : Nat} {c d : Int} (h : (f, (a, b, c, d)) ∈ shT) : ∃ t, KDct K w (He.ga K "SHAPES") f (.ref t) ∧ ∀ H, SqT K H t [V.int a, V.int b, V.int c, V.int d] := by
  obtain ⟨es, k, D⟩ := T.k_SHAPES
  have hm : (f, [V.int a, V.int b, V.int c, V.int d]) ∈ shapesKV := by
    rw [sh_ok]
    exact List.mem_map.mpr ⟨_, h, rfl⟩
  obtain ⟨e, hS⟩ := T.tab (List.all_eq_true.mp T.x2 _ hm)
  exact ⟨_, kdct (x := f) D e rfl, hS⟩
end
end K21
/-! ## WG -/
set_option Elab.async false
set_option linter.all false
set_option maxRecDepth 100000
set_option maxHeartbeats 4000000
namespace K21
open PySem PySem.Spec PyProof.Rows L2 C8
local macro_rules | `(tactic| walk_at "adv") => `(tactic| repeat (first | refine ⟨_, rfl, ?_⟩ | refine ⟨rfl, ?_⟩ | refine ⟨_, _, rfl, rfl, ?_⟩ | refine iteT ?_ | refine iteF ?_))

theorem any_false (n : Nat) : ((List.range n).map fun _ => V.bl false) = (List.replicate n false).map V.bl := by
  rw [List.map_const', List.map_replicate, List.length_range]
theorem any_rep (n : Nat) : (List.replicate n false).any id = false := by
  rw [List.any_replicate]
  simp

section
variable {P : Program} {w : World} {K : PySem.W.Frag} {mg : Str → Option Value} {base : Heap}
abbrev N_values_in : List Str := ["words", "found", "word", "value"]
theorem sc_values_in : FnScope N_values_in ["words"] (defScope s_values_in) := ⟨rfl, rfl, rfl, by decide +kernel, rfl, by decide +kernel, by decide +kernel⟩
def sp_values_in (K : PySem.W.Frag) : Sp := fun vs H Q _ => ∃ (a : Addr) (ws : List (List Nat)) (vals : List Val), vs = [.ref a] ∧ SqL K H a (ws.map fun x => .str (S x)) ∧ ws.length ≤ 1000 ∧ (∀ w ∈ ws, w.length ≤ 100000) ∧ ws.map valM = vals.map some ∧
  ∀ H' L, Same H H' → ValsAt (fun L => H L = none) H' L vals → Q (.ref L) H'
theorem cal_values_in (T : Tx w K mg) : C8.Cal P w K mg base 4 "values_in" (sp_values_in K) [] := by
  have c_value_in := cal_value_in (P := P) (base := base) T
  refine cal_of (st := s_values_in) (ps := ["words"]) T.d_values_in T.m_values_in sc_values_in (fun _ _ _ _ _ _ us hl => match us, hl with | [_], _ => rfl) (fun vs H Q E h => ?_) (fun cdv A outer s H vs Q E hr h => ?_)
  · obtain ⟨a, ws, vals, rfl, _⟩ := h
    rfl
  · obtain ⟨a, ws, vals, rfl, hS, hlen, hw, hv, q⟩ := h
    refine ⟨_, (pss_cons (ps_setLc (i := 1) (own := [("word", 2)]) (g := gName 2) (tt := tYes) rfl sc_values_in.nd rfl rfl (sw_true rfl rfl rfl (by decide +kernel)) (pi_list (pv 0)) (blkOk_by (own := [("word", 2)]) (N := N_values_in) (sc := defScope s_values_in) (by decide +kernel)) (fun _ _ _ _ _ => pg_name (i := 2) sc_values_in.nd rfl (Or.inl rfl)) (fun _ _ _ _ _ => pts_nil) (fun _ _ _ _ _ => (pe_c c_value_in hr (by decide) (by rfl) (pa_cons (pv 2) pa_nil))))
      (pss_one (ps_ret (pe_ifExp (pt_val (pe_callB (cr_any rfl) (by rfl) T.f_any (by decide +kernel) (pa_cons (pe_lc (own := [("value", 3)]) (g := gName 3) (tt := tYes) rfl sc_values_in.nd (pi_list (pv 1)) (blkOk_by (own := [("value", 3)]) (N := N_values_in) (sc := defScope s_values_in) (by decide +kernel)) (fun _ _ _ _ _ => pg_name (i := 3) sc_values_in.nd rfl (Or.inl rfl)) (fun _ _ _ _ _ => pts_nil) (fun _ _ _ _ _ => (pe_cmpR op_isN (pv 3) pe_non (nomark _)))) pa_nil))) pe_non (pv 1))))), ?_⟩
    have hvl : vals.length = ws.length := by
      have := congrArg List.length hv
      simp at this
      omega
    refine ⟨_, rfl, a, rfl, ⟨_, hS⟩, fun D hD => ?_⟩
    refine lc_pure (walk_list (xs := ws.map fun x => V.str (S x))) hD (by rw [List.length_map]; omega) (fun i y H => ∀ v, vals[i]? = some v → ValR y v H) (fun H1 s1 => s1.seq hS) (fun i y H1 H2 hl k h v hv => (h v hv).keep (NoTup.one hl.choose_spec) k) (fun i x H1 H2 C Cf hi s1 hacc y k => ?_) (fun H1 ys s1 hl e hr => ?_)
    · obtain ⟨rfl, hx⟩ := y
      rw [List.getElem?_map] at hx
      obtain ⟨w1, hw1, rfl⟩ := Option.map_eq_some_iff.mp hx
      have hi2 : i < ws.length := by simpa using hi
      have hv1 : valM w1 = some (vals[i]'(by omega)) := by
        have h1 : (ws.map valM)[i]? = (vals.map some)[i]? := by rw [hv]
        rw [List.getElem?_map, List.getElem?_map, hw1, List.getElem?_eq_getElem (by omega)] at h1
        exact Option.some.inj h1
      refine ⟨rfl, yes_in ⟨_, rfl, w1, _, rfl, hw _ (List.mem_of_getElem? hw1), hv1, fun H3 p s3 np hp => k _ _ s3 fun v hv2 => ?_⟩⟩
      rw [List.getElem?_eq_getElem (by omega)] at hv2
      rw [← Option.some.inj hv2]
      exact ⟨p, rfl, hp⟩
    · have hE : Each ValR H1 ys vals := by
        refine ⟨by rw [hl, List.length_map, hvl], fun i y v h1 h2 => hr i y h1 v h2⟩
      refine ⟨_, rfl, D, rfl, ⟨_, .inl (.inl e)⟩, fun D2 hD2 => ?_⟩
      refine lc_vals (walk_list (xs := ys)) hD2 (by rw [hl, List.length_map]; omega) (fun _ => .bl false) (fun H2 s2 => s2.seq (.inl (.inl e))) (fun i x H2 H3 C Cf hi s2 y k => ?_) (fun H2 s2 e2 => ?_)
      · obtain ⟨rfl, hx⟩ := y
        have hi2 : i < vals.length := by rw [← hE.1]; exact hi
        obtain ⟨p, rfl, _⟩ := hE.2 i x _ hx (List.getElem?_eq_getElem hi2)
        exact ⟨rfl, yes_in ⟨_, rfl, rfl, k _ (Same.refl _)⟩⟩
      · rw [any_false] at e2
        refine ⟨D2, _, rfl, .inl (.inl e2), _, rfl, ?_⟩
        rw [any_rep]
        exact iteF ⟨_, rfl, q _ D (s1.trans s2) ⟨hD, ys, s2 _ _ e, hE.imp fun y d r => r.keep NoTup.nil (Keep.of_same s2)⟩⟩
abbrev N_worth_in : List Str := ["value", "names", "name", "number"]
theorem sc_worth_in : FnScope N_worth_in ["value", "names"] (defScope s_worth_in) := ⟨rfl, rfl, rfl, by decide +kernel, rfl, by decide +kernel, by decide +kernel⟩
def sp_worth_in : Sp := fun vs H Q _ => ∃ (a N : Addr) (v : Val) (ns : List Nm) (k : Int), vs = [.ref a, .ref N] ∧ ValAt H a v ∧ NamesAt H N ns ∧ worthM ns v = some k ∧ Q (.int k) H
theorem cal_worth_in (T : Tx w K mg) : C8.Cal P w K mg base 1 "worth_in" sp_worth_in [] := by
  refine cal_of (st := s_worth_in) (ps := ["value", "names"]) T.d_worth_in T.m_worth_in sc_worth_in (fun _ _ _ _ _ _ us hl => match us, hl with | [_, _], _ => rfl) (fun vs H Q E h => ?_) (fun cdv A outer s H vs Q E hr h => ?_)
  · obtain ⟨a, N, v, ns, k, rfl, _⟩ := h
    rfl
  · obtain ⟨a, N, v, ns, k, rfl, hv, hN, hk, q⟩ := h
    refine ⟨_, (pss_cons (ps_asg (pv 0) (pg_tup rfl (pgs_cons (pg_name (i := 2) sc_worth_in.nd rfl (Or.inl rfl)) (pgs_cons (pg_name (i := 3) sc_worth_in.nd rfl (Or.inl rfl)) pgs_nil))))
      (pss_cons (ps_if (pt_cmpR op_isN (pv 2) pe_non (nomark _))
        (pss_one (ps_ret (pv 3)))
        pss_nil)
      (pss_one (ps_ret (pe_ifExp (pt_cmp (pc_din (hu_of hr) (pv 2) (pv 1))) (pe_op op_add (pe_ix ix_tup (pe_dget (hu_of hr) (pv 1) (pv 2) (fun _ _ => rfl)) pe_int (fun _ _ => rfl)) (pv 3)) pe_non))))), ?_⟩
    refine ⟨_, rfl, a, _, rfl, .inl (.inl hv), rfl, _, _, rfl, _, _, rfl, rfl, ?_⟩
    obtain ⟨nm, n⟩ := v
    obtain ⟨kvs, eN, p⟩ := hN
    cases nm with
    | none =>
      have ek : k = n := (Option.some.inj hk).symm
      subst ek
      exact ⟨_, rfl, rfl, _, rfl, iteT ⟨_, rfl, q⟩⟩
    | some nm =>
      refine ⟨_, rfl, rfl, _, rfl, iteF ?_⟩
      have hk2 : (look ns nm).map (fun z => z.2 + n) = some k := hk
      rcases names_look p nm with ⟨h, _⟩ | ⟨z, t, h1, h2, h3⟩
      · rw [h] at hk2
        cases hk2
      · rw [h1] at hk2
        have ek : z.2 + n = k := Option.some.inj hk2
        refine ⟨_, rfl, _, rfl, N, _, rfl, DGet.k (k := Sum.inr (S nm)) eN, _, rfl, ?_⟩
        rw [h2]
        refine iteT ⟨_, rfl, _, rfl, N, .ref t, rfl, ?_, t, _, 1, .int z.2, rfl, rfl, .inl (.inl h3), atI_nat (j := 1) rfl, _, rfl, _, _, rfl, rfl, ?_⟩
        · rw [← h2]
          exact DGet.k (k := Sum.inr (S nm)) eN
        · rw [← ek] at q
          exact q
abbrev N_bounded_number : List Str := ["words", "most", "found"]
theorem sc_bounded_number : FnScope N_bounded_number ["words", "most"] (defScope s_bounded_number) := ⟨rfl, rfl, rfl, by decide +kernel, rfl, by decide +kernel, by decide +kernel⟩
def sp_bounded_number (K : PySem.W.Frag) : Sp := fun vs H Q _ => ∃ (a : Addr) (w1 w2 : List Nat) (n m : Int), vs = [.ref a, .int m] ∧ SqL K H a [.str (S w1), .str (S w2)] ∧ w2.length ≤ 100000 ∧ numM w2 = some n ∧ 0 ≤ n ∧ n ≤ m ∧
  ∀ H', Same H H' → Q (.int n) H'
theorem cal_bounded_number (T : Tx w K mg) : C8.Cal P w K mg base 3 "bounded_number" (sp_bounded_number K) [] := by
  have c_number_text := cal_number_text (P := P) (base := base) T
  refine cal_of (st := s_bounded_number) (ps := ["words", "most"]) T.d_bounded_number T.m_bounded_number sc_bounded_number (fun _ _ _ _ _ _ us hl => match us, hl with | [_, _], _ => rfl) (fun vs H Q E h => ?_) (fun cdv A outer s H vs Q E hr h => ?_)
  · obtain ⟨a, w1, w2, n, m, rfl, _⟩ := h
    rfl
  · obtain ⟨a, w1, w2, n, m, rfl, hS, hl, hn, h0, h1, q⟩ := h
    refine ⟨_, (pss_cons (ps_set (i := 2) sc_bounded_number.nd rfl (Or.inl rfl) (pe_ifExp (pt_cmpR op_eq (pe_callB call_len_seq (by rfl) T.f_len (by decide +kernel) (pa_cons (pv 0) pa_nil)) pe_int (nomark _)) (pe_c c_number_text hr (by decide) (by rfl) (pa_cons (pe_ix ix_list (pv 0) pe_int (fun _ _ => rfl)) pa_nil)) pe_non))
      (pss_one (ps_ret (pe_ifExp (PW.pt (pw_or (pt_cmpR op_isN (pv 2) pe_non (nomark _)) (pw_or1 (pt_not (pt_chain op_le op_le pe_int (pv 2) (pv 1)))))) pe_non (pv 2))))), ?_⟩
    refine ⟨_, rfl, a, _, rfl, .inl hS, rfl, _, rfl, iteDT rfl ?_⟩
    refine ⟨_, rfl, a, _, 1, .str (S w2), rfl, rfl, hS, atI_nat (j := 1) rfl, w2, rfl, hl, fun H1 s1 => ?_⟩
    rw [hn]
    refine ⟨_, rfl, rfl, _, rfl, iteF ?_⟩
    refine ⟨_, rfl, _, _, rfl, rfl, _, rfl, iteDT h0 ⟨_, rfl, _, _, rfl, rfl, _, rfl, iteNF h1 ⟨_, rfl, q _ s1⟩⟩⟩
end
end K21
/-! ## WH -/
set_option Elab.async false
set_option linter.all false
set_option maxRecDepth 100000
set_option maxHeartbeats 4000000
namespace K21
open PySem PySem.Spec PyProof.Rows L2 C8
local macro_rules | `(tactic| walk_at "adv") => `(tactic| repeat (first | refine ⟨_, rfl, ?_⟩ | refine ⟨rfl, ?_⟩ | refine ⟨_, _, rfl, rfl, ?_⟩ | refine iteT ?_ | refine iteF ?_))

def chrVal (c : Nat) : Val := (none, (c : Int))
theorem cut_inner (b : List Nat) (c d : Nat) : cutS (S (c :: (b ++ [d]))) (some 1) (some (-1)) = S b := by
  unfold cutS
  rw [show (some (1 : Int)) = some ((1 : Nat) : Int) from rfl, HT.sIx_nat, S_len]
  have h : HT.sIx (c :: (b ++ [d])).length (c :: (b ++ [d])).length (some (-1)) = b.length + 1 := by
    unfold HT.sIx
    simp
    omega
  rw [h]
  show S (((c :: (b ++ [d])).drop (min 1 _)).take (b.length + 1 - min 1 _)) = S b
  simp

section
variable {P : Program} {w : World} {K : PySem.W.Frag} {mg : Str → Option Value} {base : Heap}
abbrev N_form_by_name : List Str := ["name"]
theorem sc_form_by_name : FnScope N_form_by_name ["name"] (defScope s_form_by_name) := ⟨rfl, rfl, rfl, by decide +kernel, rfl, by decide +kernel, by decide +kernel⟩
def sp_form_by_name : Sp := fun vs H Q _ => ∃ n f : Str, vs = [.str n] ∧ (n, f) ∈ opsT ∧ Q (.str f) H
theorem cal_form_by_name (T : Tx w K mg) : C8.Cal P w K mg base 1 "form_by_name" sp_form_by_name [] := by
  refine cal_of (st := s_form_by_name) (ps := ["name"]) T.d_form_by_name T.m_form_by_name sc_form_by_name (fun _ _ _ _ _ _ us hl => match us, hl with | [_], _ => rfl) (fun vs H Q E h => ?_) (fun cdv A outer s H vs Q E hr h => ?_)
  · obtain ⟨n, f, rfl, _⟩ := h
    rfl
  · obtain ⟨n, f, rfl, hf, q⟩ := h
    refine ⟨_, (pss_one (ps_ret (pe_ix ix_kdict (pe_gc (by rfl) T.v_FORMS) (pv 0) (fun _ _ => rfl)))), ?_⟩
    exact ⟨_, rfl, _, n, _, rfl, rfl, (form_get T hf).1, q⟩
abbrev N_operations : List Str := []
theorem sc_operations : FnScope N_operations [] (defScope s_operations) := ⟨rfl, rfl, rfl, by decide +kernel, rfl, by decide +kernel, by decide +kernel⟩
def sp_operations : Sp := fun vs H Q _ => vs = [] ∧ ∀ H' p, Same H H' → H p = none → H' p = some (.lst (opNames.map V.str)) → Q (.ref p) H'
theorem cal_operations (T : Tx w K mg) : C8.Cal P w K mg base 1 "operations" sp_operations [] := by
  refine cal_of (st := s_operations) (ps := []) T.d_operations T.m_operations sc_operations (fun _ _ _ _ _ _ us hl => match us, hl with | [], _ => rfl) (fun vs H Q E h => ?_) (fun cdv A outer s H vs Q E hr h => ?_)
  · obtain ⟨rfl, _⟩ := h
    rfl
  · obtain ⟨rfl, q⟩ := h
    refine ⟨_, (pss_one (ps_ret (pe_callTy (call_list_kd rfl) (by rfl) T.f_list (by decide +kernel) (pa_cons (pe_gc (by rfl) T.v_FORMS) pa_nil)))), ?_⟩
    obtain ⟨es, k, D, hk⟩ := forms_keys T
    refine ⟨_, es, k, opNames, rfl, D, hk, opNames_nd, by decide, fun p np => ?_⟩
    exact q _ p (same_new np) np upd_same
abbrev N_shaped_signs : List Str := ["words", "sign"]
theorem sc_shaped_signs : FnScope N_shaped_signs ["words"] (defScope s_shaped_signs) := ⟨rfl, rfl, rfl, by decide +kernel, rfl, by decide +kernel, by decide +kernel⟩
def sp_shaped_signs (K : PySem.W.Frag) : Sp := fun vs H Q _ => ∃ (W : Addr) (kw : V) (b : List Nat), vs = [.ref W] ∧ SqL K H W [kw, .str (S (34 :: (b ++ [34])))] ∧ b.length ≤ 80 ∧
  ∀ H' p, Same H H' → StmAt (fun L => H L = none) H' p (.words (b.map chrVal)) → Q (.ref p) H'
theorem cal_shaped_signs (T : Tx w K mg) : C8.Cal P w K mg base 1 "shaped_signs" (sp_shaped_signs K) [] := by
  refine cal_of (st := s_shaped_signs) (ps := ["words"]) T.d_shaped_signs T.m_shaped_signs sc_shaped_signs (fun _ _ _ _ _ _ us hl => match us, hl with | [_], _ => rfl) (fun vs H Q E h => ?_) (fun cdv A outer s H vs Q E hr h => ?_)
  · obtain ⟨W, kw, b, rfl, _⟩ := h
    rfl
  · obtain ⟨W, kw, b, rfl, hS, hb, q⟩ := h
    refine ⟨_, (pss_cons (ps_if (PW.pt (pw_or (pt_cmpR op_ne (pe_callB call_len_seq (by rfl) T.f_len (by decide +kernel) (pa_cons (pv 0) pa_nil)) pe_int (nomark _)) (pw_or (pt_cmpR op_ne (pe_ix ix_str (pe_ix ix_list (pv 0) pe_int (fun _ _ => rfl)) pe_int (fun _ _ => rfl)) (pe_gc (by rfl) T.v_QUOTE) (nomark _)) (pw_or1 (pt_cmpR op_gt (pe_callB call_len_str (by rfl) T.f_len (by decide +kernel) (pa_cons (pe_ix ix_list (pv 0) pe_int (fun _ _ => rfl)) pa_nil)) (pe_op op_add (pe_gc (by rfl) T.v_MOST_SIGNS) pe_int) (nomark _))))))
        (pss_one (ps_ret pe_non))
        pss_nil)
      (pss_one (ps_ret (pe_tup (pa_cons pe_str (pa_cons (pe_op op_sub (pe_callB call_len_str (by rfl) T.f_len (by decide +kernel) (pa_cons (pe_ix ix_list (pv 0) pe_int (fun _ _ => rfl)) pa_nil)) pe_int) (pa_cons (pe_lc (own := [("sign", 1)]) (g := gName 1) (tt := tYes) rfl sc_shaped_signs.nd (pi_str (pe_slice sl_str (pe_ix ix_list (pv 0) pe_int (fun _ _ => rfl)) (po_some pe_int) (po_some (pe_un un_neg pe_int)))) (blkOk_by (own := [("sign", 1)]) (N := N_shaped_signs) (sc := defScope s_shaped_signs) (by decide +kernel)) (fun _ _ _ _ _ => pg_name (i := 1) sc_shaped_signs.nd rfl (Or.inl rfl)) (fun _ _ _ _ _ => pts_nil) (fun _ _ _ _ _ => (pe_tup (pa_cons pe_non (pa_cons (pe_callB call_ord (by rfl) T.f_ord (by decide +kernel) (pa_cons (pv 1) pa_nil)) pa_nil))))) pa_nil))))))), ?_⟩
    have hl : (S (34 :: (b ++ [34]))).length = b.length + 2 := by rw [S_len]; simp
    have hz : (S (34 :: (b ++ [34]))).length ≤ sizeLine := by rw [hl]; exact sz (by omega)
    refine ⟨_, rfl, W, _, rfl, .inl hS, rfl, _, rfl, iteNF rfl ?_⟩
    refine ⟨_, rfl, W, _, 1, _, rfl, rfl, hS, atI_nat (j := 1) rfl, _, _, 34, rfl, rfl, hz, atI_nat (j := 0) rfl, ?_⟩
    rw [str_q]
    refine ⟨rfl, _, rfl, iteNF rfl ?_⟩
    refine ⟨_, rfl, W, _, 1, _, rfl, rfl, hS, atI_nat (j := 1) rfl, _, rfl, hz, _, _, rfl, rfl, _, _, rfl, rfl, _, rfl, ?_⟩
    dsimp only
    rw [hl]
    refine iteDF (by omega) ?_
    refine ⟨_, rfl, W, _, 1, _, rfl, rfl, hS, atI_nat (j := 1) rfl, _, rfl, hz, _, _, rfl, rfl, ?_⟩
    refine ⟨_, rfl, W, _, 1, _, rfl, rfl, hS, atI_nat (j := 1) rfl, _, rfl, _, rfl, _, rfl, _, rfl, hz, ?_⟩
    dsimp only
    rw [cut_inner]
    refine ⟨_, rfl, fun D hD => ?_⟩
    refine lc_pure walk_str hD (by rw [List.size_toArray]; omega) (fun i y H => ValR y (none, ((b.getD i 0 : Nat) : Int)) H) (fun _ _ => trivial) (fun i y H1 H2 hl k h => h.keep (NoTup.one hl.choose_spec) k) (fun i x H1 H2 C Cf hi s1 hacc y k => ?_) (fun H1 ys s1 hly e hr => ?_)
    · obtain ⟨rfl, d, hd, rfl⟩ := y
      have ed : d = b.getD i 0 := cps_at hd
      refine ⟨rfl, yes_in ⟨_, rfl, _, rfl, rfl, sz (by show 2 ≤ 1000000; decide), fun p np => ?_⟩⟩
      refine k _ _ (same_new np) ⟨p, rfl, ?_⟩
      show upd H2 p _ p = _
      rw [upd_same, ← ed]
      rfl
    · refine ⟨sz (by show 3 ≤ 1000000; decide), fun p np => ?_⟩
      generalize hH : upd _ p _ = H2
      have s2 := new_same hH np
      have e2 := new_at hH
      rw [List.size_toArray] at hly
      refine q H2 p (s1.trans s2) ⟨_, ?_, D, rfl, hD, ys, s2 _ _ e, by rw [List.length_map]; exact hly, fun i y v h1 h2 => ?_⟩
      · rw [e2]
        have e5 : ((S (34 :: (b ++ [34]))).length : Int) - 2 = ((Stm.words (b.map chrVal)).size : Int) := by
          rw [hl]
          show _ = (((b.map chrVal).length : Nat) : Int)
          rw [List.length_map]
          omega
        rw [e5]
        rfl
      · have := hr i y h1
        rw [List.getElem?_map] at h2
        obtain ⟨c, hc, rfl⟩ := Option.map_eq_some_iff.mp h2
        have e3 : b.getD i 0 = c := by rw [List.getD_eq_getElem?_getD, hc]; rfl
        rw [e3] at this
        exact this.keep NoTup.nil (Keep.of_same s2)
abbrev N_shaped_set : List Str := ["words", "which", "value"]
theorem sc_shaped_set : FnScope N_shaped_set ["words"] (defScope s_shaped_set) := ⟨rfl, rfl, rfl, by decide +kernel, rfl, by decide +kernel, by decide +kernel⟩
def sp_shaped_set (K : PySem.W.Frag) : Sp := fun vs H Q _ => ∃ (W : Addr) (kw : V) (d : Nat) (w : List Nat) (v : Val), vs = [.ref W] ∧ SqL K H W [kw, .str (S [114, 48 + d]), .str (S w)] ∧ d < 8 ∧ w.length ≤ 100000 ∧ valM w = some v ∧
  ∀ H' p, Same H H' → StmAt (fun L => H L = none) H' p (.set d v) → Q (.ref p) H'
theorem cal_shaped_set (T : Tx w K mg) : C8.Cal P w K mg base 4 "shaped_set" (sp_shaped_set K) [] := by
  have c_register_in := cal_register_in (P := P) (base := base) T
  have c_value_in := cal_value_in (P := P) (base := base) T
  refine cal_of (st := s_shaped_set) (ps := ["words"]) T.d_shaped_set T.m_shaped_set sc_shaped_set (fun _ _ _ _ _ _ us hl => match us, hl with | [_], _ => rfl) (fun vs H Q E h => ?_) (fun cdv A outer s H vs Q E hr h => ?_)
  · obtain ⟨W, kw, d, w, v, rfl, _⟩ := h
    rfl
  · obtain ⟨W, kw, d, w1, v, rfl, hS, hd, hw, hv, q⟩ := h
    refine ⟨_, (pss_cons (ps_set (i := 1) sc_shaped_set.nd rfl (Or.inl rfl) (pe_ifExp (pt_cmpR op_eq (pe_callB call_len_seq (by rfl) T.f_len (by decide +kernel) (pa_cons (pv 0) pa_nil)) pe_int (nomark _)) (pe_c c_register_in hr (by decide) (by rfl) (pa_cons (pe_ix ix_list (pv 0) pe_int (fun _ _ => rfl)) pa_nil)) pe_non))
      (pss_cons (ps_set (i := 2) sc_shaped_set.nd rfl (Or.inl rfl) (pe_ifExp (pt_cmpR op_notN (pv 1) pe_non (nomark _)) (pe_c c_value_in hr (by decide) (by rfl) (pa_cons (pe_ix ix_list (pv 0) pe_int (fun _ _ => rfl)) pa_nil)) pe_non))
      (pss_one (ps_ret (pe_ifExp (pt_cmpR op_isN (pv 2) pe_non (nomark _)) pe_non (pe_tup (pa_cons pe_str (pa_cons pe_int (pa_cons (pe_tup (pa_cons (pv 1) (pa_cons (pv 2) pa_nil))) pa_nil))))))))), ?_⟩
    refine ⟨_, rfl, W, _, rfl, .inl hS, rfl, _, rfl, iteDT rfl ?_⟩
    refine ⟨_, rfl, W, _, 1, _, rfl, rfl, hS, atI_nat (j := 1) rfl, d, rfl, hd, ?_⟩
    refine ⟨_, rfl, rfl, _, rfl, iteT ?_⟩
    refine ⟨_, rfl, W, _, 2, _, rfl, rfl, hS, atI_nat (j := 2) rfl, w1, v, rfl, hw, hv, fun H1 a s1 na ha => ?_⟩
    refine ⟨_, rfl, rfl, _, rfl, iteF ?_⟩
    refine ⟨_, rfl, _, rfl, sz (by show 2 ≤ 1000000; decide), fun t nt => ?_⟩
    generalize hH : upd _ t _ = H2
    have s2 := new_same hH nt
    have e2 := new_at hH
    refine ⟨sz (by show 3 ≤ 1000000; decide), fun p np => ?_⟩
    generalize hH : upd _ p _ = H3
    have s3 := new_same hH np
    have e3 := new_at hH
    exact q H3 p (s1.trans (s2.trans s3)) ⟨.ref t, e3, t, a, rfl, s3 _ _ e2, s3 _ _ (s2 _ _ ha)⟩
abbrev N_shaped_data : List Str := ["words", "place", "many", "values"]
theorem sc_shaped_data : FnScope N_shaped_data ["words"] (defScope s_shaped_data) := ⟨rfl, rfl, rfl, by decide +kernel, rfl, by decide +kernel, by decide +kernel⟩
inductive DataW : List (List Nat) → Stm → Prop where
  | at_ {w : List Nat} {n : Int} : numM w = some n → 0 ≤ n → n ≤ 959 → DataW [cl ".at", w] (.at_ n)
  | space {w : List Nat} {k : Nat} : numM w = some (k : Int) → k ≤ 400 → DataW [cl ".space", w] (.words (List.replicate k (none, 0)))
  | word {ws : List (List Nat)} {vals : List Val} : ws.map valM = vals.map some → 1 ≤ ws.length → ws.length ≤ 40 → DataW (cl ".word" :: ws) (.words vals)
  | text {b : List Nat} : b.length ≤ 80 → DataW [cl ".text", 34 :: (b ++ [34])] (.words (b.map chrVal))
def sp_shaped_data (K : PySem.W.Frag) : Sp := fun vs H Q _ => ∃ (W : Addr) (ws : List (List Nat)) (st : Stm), vs = [.ref W] ∧ SqL K H W (ws.map fun x => .str (S x)) ∧ (∀ w ∈ ws, w.length ≤ 1000) ∧ DataW ws st ∧
  ∀ H' p, Same H H' → StmAt (fun L => H L = none) H' p st → Q (.ref p) H'
theorem cal_shaped_data (T : Tx w K mg) : C8.Cal P w K mg base 5 "shaped_data" (sp_shaped_data K) [] := by
  have c_bounded_number := cal_bounded_number (P := P) (base := base) T
  have c_values_in := cal_values_in (P := P) (base := base) T
  have c_shaped_signs := cal_shaped_signs (P := P) (base := base) T
  refine cal_of (st := s_shaped_data) (ps := ["words"]) T.d_shaped_data T.m_shaped_data sc_shaped_data (fun _ _ _ _ _ _ us hl => match us, hl with | [_], _ => rfl) (fun vs H Q E h => ?_) (fun cdv A outer s H vs Q E hr h => ?_)
  · obtain ⟨W, ws, st, rfl, _⟩ := h
    rfl
  · obtain ⟨W, ws, st, rfl, hS, hw, hd, q⟩ := h
    refine ⟨_, (pss_cons (ps_if (pt_cmpR op_eq (pe_ix ix_list (pv 0) pe_int (fun _ _ => rfl)) pe_str (nomark _))
        (pss_cons (ps_set (i := 1) sc_shaped_data.nd rfl (Or.inl rfl) (pe_c c_bounded_number hr (by decide) (by rfl) (pa_cons (pv 0) (pa_cons (pe_op op_sub (pe_gc (by rfl) T.v_MEMORY_END) pe_int) pa_nil))))
        (pss_one (ps_ret (pe_ifExp (pt_cmpR op_isN (pv 1) pe_non (nomark _)) pe_non (pe_tup (pa_cons pe_str (pa_cons pe_int (pa_cons (pv 1) pa_nil))))))))
        pss_nil)
      (pss_cons (ps_if (pt_cmpR op_eq (pe_ix ix_list (pv 0) pe_int (fun _ _ => rfl)) pe_str (nomark _))
        (pss_cons (ps_set (i := 2) sc_shaped_data.nd rfl (Or.inl rfl) (pe_c c_bounded_number hr (by decide) (by rfl) (pa_cons (pv 0) (pa_cons (pe_gc (by rfl) T.v_MOST_SPACE) pa_nil))))
        (pss_one (ps_ret (pe_ifExp (pt_cmpR op_isN (pv 2) pe_non (nomark _)) pe_non (pe_tup (pa_cons pe_str (pa_cons (pv 2) (pa_cons (pe_op op_rep (pe_lst (pa_cons (pe_tup (pa_cons pe_non (pa_cons pe_int pa_nil))) pa_nil)) (pv 2)) pa_nil))))))))
        pss_nil)
      (pss_cons (ps_if (pt_cmpR op_eq (pe_ix ix_list (pv 0) pe_int (fun _ _ => rfl)) pe_str (nomark _))
        (pss_cons (ps_set (i := 3) sc_shaped_data.nd rfl (Or.inl rfl) (pe_c c_values_in hr (by decide) (by rfl) (pa_cons (pe_slice sl_list (pv 0) (po_some pe_int) po_none) pa_nil)))
        (pss_cons (ps_if (PW.pt (pw_or (pt_cmpR op_isN (pv 3) pe_non (nomark _)) (pw_or1 (pt_not (pt_chain op_le op_le pe_int (pe_callB call_len_seq (by rfl) T.f_len (by decide +kernel) (pa_cons (pv 3) pa_nil)) (pe_gc (by rfl) T.v_MOST_VALUES))))))
          (pss_one (ps_ret pe_non))
          pss_nil)
        (pss_one (ps_ret (pe_tup (pa_cons pe_str (pa_cons (pe_callB call_len_seq (by rfl) T.f_len (by decide +kernel) (pa_cons (pv 3) pa_nil)) (pa_cons (pv 3) pa_nil))))))))
        pss_nil)
      (pss_one (ps_ret (pe_ifExp (pt_cmpR op_eq (pe_ix ix_list (pv 0) pe_int (fun _ _ => rfl)) pe_str (nomark _)) (pe_c c_shaped_signs hr (by decide) (by rfl) (pa_cons (pv 0) pa_nil)) pe_non)))))), ?_⟩
    have e0 : ∀ (a b : List Nat), scal (.str (S a)) (.str (S b)) = true := fun _ _ => rfl
    cases hd with
    | @at_ w1 n h1 h2 h3 =>
      refine ⟨_, rfl, W, _, 0, _, rfl, rfl, hS, atI_nat (j := 0) rfl, rfl, _, rfl, iteDT rfl ?_⟩
      refine ⟨_, rfl, _, _, rfl, rfl, W, _, w1, n, 959, rfl, hS, by have := hw w1 (by simp); omega, h1, h2, h3, fun H1 s1 => ?_⟩
      refine ⟨_, rfl, rfl, _, rfl, iteF ?_⟩
      refine ⟨_, rfl, sz (by show 3 ≤ 1000000; decide), fun p np => ?_⟩
      generalize hH : upd _ p _ = H3
      have s3 := new_same hH np
      have e3 := new_at hH
      exact q H3 p (s1.trans s3) ⟨.int n, e3, rfl⟩
    | @space w1 k h1 h2 =>
      refine ⟨_, rfl, W, _, 0, _, rfl, rfl, hS, atI_nat (j := 0) rfl, rfl, _, rfl, iteDF (by decide +kernel) ?_⟩
      refine ⟨_, rfl, W, _, 0, _, rfl, rfl, hS, atI_nat (j := 0) rfl, rfl, _, rfl, iteDT rfl ?_⟩
      refine ⟨_, rfl, W, _, w1, k, 400, rfl, hS, by have := hw w1 (by simp); omega, h1, by omega, by omega, fun H1 s1 => ?_⟩
      refine ⟨_, rfl, rfl, _, rfl, iteF ?_⟩
      refine ⟨_, rfl, sz (by show 2 ≤ 1000000; decide), fun u nu => ?_⟩
      generalize hH : upd _ u _ = H2
      have s2 := new_same hH nu
      have e2 := new_at hH
      refine ⟨sz (by show 1 ≤ 1000000; decide), fun L nL => ?_⟩
      generalize hH : upd _ L _ = H3
      have s3 := new_same hH nL
      have e3 := new_at hH
      refine ⟨_, rfl, L, k, _, rfl, rfl, e3, by omega, by omega, by rw [List.length_singleton]; exact sz (by omega), fun M nM => ?_⟩
      generalize hH : upd _ M _ = H4
      have s4 := new_same hH nM
      have e4 := new_at hH
      have e4' : H4 M = some (.lst (List.replicate k (.ref u))) := by
        rw [e4, Int.toNat_natCast]
        congr 2
        rw [List.flatten_replicate_singleton]
      refine ⟨sz (by show 3 ≤ 1000000; decide), fun p np => ?_⟩
      generalize hH : upd _ p _ = H5
      have s5 := new_same hH np
      have e5 := new_at hH
      have s13 := s1.trans (s2.trans s3)
      refine q H5 p (s13.trans (s4.trans s5)) ⟨.ref M, ?_, M, rfl, s13.free nM, _, s5 _ _ e4', by simp, fun i y d hy hd => ?_⟩
      · rw [e5]
        show _ = some (HO.tup [.str "words", .int ((List.replicate k ((none, 0) : Val)).length : Int), .ref M])
        rw [List.length_replicate]
      · have hy2 := (List.getElem?_eq_some_iff.mp hy)
        have hd2 := (List.getElem?_eq_some_iff.mp hd)
        obtain ⟨i1, hy2⟩ := hy2
        obtain ⟨i2, hd2⟩ := hd2
        rw [List.getElem_replicate] at hy2 hd2
        subst hy2 hd2
        exact ⟨u, rfl, s5 _ _ (s4 _ _ (s3 _ _ e2))⟩
    | @word ws vals h1 h2 h3 =>
      refine ⟨_, rfl, W, _, 0, _, rfl, rfl, hS, atI_nat (j := 0) rfl, rfl, _, rfl, iteDF (by decide +kernel) ?_⟩
      refine ⟨_, rfl, W, _, 0, _, rfl, rfl, hS, atI_nat (j := 0) rfl, rfl, _, rfl, iteDF (by decide +kernel) ?_⟩
      refine ⟨_, rfl, W, _, 0, _, rfl, rfl, hS, atI_nat (j := 0) rfl, rfl, _, rfl, iteDT rfl ?_⟩
      refine ⟨_, rfl, _, rfl, W, _, rfl, hS, fun u nu => ?_⟩
      generalize hH : upd _ u _ = H2
      have s2 := new_same hH nu
      have e2 := new_at hH
      have ec : cutV ((cl ".word" :: ws).map fun x => V.str (S x)) (some 1) none = ws.map fun x => .str (S x) := by
        rw [show (some (1 : Int)) = some ((1 : Nat) : Int) from rfl]
        unfold cutV
        rw [HT.sIx_nat, HT.sIx_none]
        simp
        exact List.take_of_length_le (by simp)
      rw [ec] at e2
      refine ⟨u, ws, vals, rfl, .inl (.inl e2), by omega, fun w1 h => by have := hw w1 (by simp [h]); omega, h1, fun H3 L s3 hv => ?_⟩
      refine ⟨_, rfl, rfl, _, rfl, iteF ?_⟩
      obtain ⟨f, ys, eL, hE⟩ := hv
      have hvl : vals.length = ws.length := by
        have := congrArg List.length h1
        simp at this
        omega
      refine ⟨_, rfl, L, _, rfl, .inl (.inl (.inl eL)), _, _, rfl, rfl, _, rfl, ?_⟩
      dsimp only
      rw [hE.1, hvl]
      refine iteDT (by omega) ⟨_, _, rfl, rfl, _, rfl, iteNF (by omega) ?_⟩
      refine ⟨_, rfl, L, _, rfl, .inl (.inl (.inl eL)), _, rfl, sz (by show 3 ≤ 1000000; decide), fun p np => ?_⟩
      generalize hH : upd _ p _ = H5
      have s5 := new_same hH np
      have e5 := new_at hH
      refine q H5 p (s2.trans (s3.trans s5)) ⟨.ref L, ?_, L, rfl, s2.free f, ys, s5 _ _ eL, hE.imp fun y d r => r.keep NoTup.nil (Keep.of_same s5)⟩
      rw [e5, hE.1]
      rfl
    | @text b h1 =>
      refine ⟨_, rfl, W, _, 0, _, rfl, rfl, hS, atI_nat (j := 0) rfl, rfl, _, rfl, iteDF (by decide +kernel) ?_⟩
      refine ⟨_, rfl, W, _, 0, _, rfl, rfl, hS, atI_nat (j := 0) rfl, rfl, _, rfl, iteDF (by decide +kernel) ?_⟩
      refine ⟨_, rfl, W, _, 0, _, rfl, rfl, hS, atI_nat (j := 0) rfl, rfl, _, rfl, iteDF (by decide +kernel) ?_⟩
      refine ⟨_, rfl, W, _, 0, _, rfl, rfl, hS, atI_nat (j := 0) rfl, rfl, _, rfl, iteDT rfl ?_⟩
      exact ⟨_, rfl, W, _, b, rfl, hS, h1, fun H' p s h => q H' p s h⟩
end
end K21
/-! ## WI -/
set_option Elab.async false
set_option linter.all false
set_option maxRecDepth 100000
set_option maxHeartbeats 4000000
namespace K21
open PySem PySem.Spec PyProof.Rows L2 C8
local macro_rules | `(tactic| walk_at "adv") => `(tactic| repeat (first | refine ⟨_, rfl, ?_⟩ | refine ⟨rfl, ?_⟩ | refine ⟨_, _, rfl, rfl, ?_⟩ | refine iteT ?_ | refine iteF ?_))

def regW (r : Nat) : List Nat := [114, 48 + r]
def strV (x : List Nat) : V := .str (S x)
theorem cut_regs (x : V) (A B : List V) (a : Int) (h : a = (A.length : Int)) : cutV (x :: (A ++ B)) (some 1) (some (1 + a)) = A := by
  subst h
  rw [show (some (1 : Int)) = some ((1 : Nat) : Int) from rfl, show (1 : Int) + (A.length : Int) = ((1 + A.length : Nat) : Int) by omega]
  unfold cutV
  rw [HT.sIx_nat, HT.sIx_nat]
  simp
  have e : min (1 + A.length) (A.length + B.length + 1) - 1 = A.length := by omega
  rw [e]
  simp
theorem cut_vals (x : V) (A B : List V) (a : Int) (h : a = (A.length : Int)) : cutV (x :: (A ++ B)) (some (1 + a)) none = B := by
  subst h
  rw [show (1 : Int) + (A.length : Int) = ((1 + A.length : Nat) : Int) by omega]
  unfold cutV
  rw [HT.sIx_nat, HT.sIx_none]
  simp
  have e : min (1 + A.length) (A.length + B.length + 1) = A.length + 1 := by omega
  rw [e]
  simp
theorem fsh_small : ∀ q ∈ fshT, q.2.1 ≤ 3 ∧ q.2.2 ≤ 1 := by decide +kernel

section
variable {P : Program} {w : World} {K : PySem.W.Frag} {mg : Str → Option Value} {base : Heap}
abbrev N_shaped_instruction : List Str := ["words", "registers", "many", "found", "values", "word", "which"]
theorem sc_shaped_instruction : FnScope N_shaped_instruction ["words"] (defScope s_shaped_instruction) := ⟨rfl, rfl, rfl, by decide +kernel, rfl, by decide +kernel, by decide +kernel⟩
def sp_shaped_instruction (K : PySem.W.Frag) : Sp := fun vs H Q _ => ∃ (W : Addr) (n : List Nat) (f : Str) (a b : Nat) (regs : List Nat) (ws : List (List Nat)) (vals : List Val), vs = [.ref W] ∧ SqL K H W (strV n :: ((regs.map fun r => strV (regW r)) ++ ws.map strV)) ∧
  (S n, f) ∈ opsT ∧ (f, (a, b)) ∈ fshT ∧ regs.length = a ∧ (∀ r ∈ regs, r < 8) ∧ ws.length = b ∧ (∀ w ∈ ws, w.length ≤ 100000) ∧ ws.map valM = vals.map some ∧
  ∀ H' p, Same H H' → StmAt (fun L => H L = none) H' p (.one n regs vals) → Q (.ref p) H'
theorem cal_shaped_instruction (T : Tx w K mg) : C8.Cal P w K mg base 5 "shaped_instruction" (sp_shaped_instruction K) [] := by
  have c_values_in := cal_values_in (P := P) (base := base) T
  have c_form_by_name := cal_form_by_name (P := P) (base := base) T
  have c_register_in := cal_register_in (P := P) (base := base) T
  refine cal_of (st := s_shaped_instruction) (ps := ["words"]) T.d_shaped_instruction T.m_shaped_instruction sc_shaped_instruction (fun _ _ _ _ _ _ us hl => match us, hl with | [_], _ => rfl) (fun vs H Q E h => ?_) (fun cdv A outer s H vs Q E hr h => ?_)
  · obtain ⟨W, n, f, a, b, regs, ws, vals, rfl, _⟩ := h
    rfl
  · obtain ⟨W, n, f, a, b, regs, ws, vals, rfl, hS, hf, hsh, ha, hr8, hb, hw, hv, q⟩ := h
    refine ⟨_, (pss_cons (ps_asg (pe_ix ix_kdict (pe_gc (by rfl) T.v_FORM_SHAPES) (pe_c c_form_by_name hr (by decide) (by rfl) (pa_cons (pe_ix ix_list (pv 0) pe_int (fun _ _ => rfl)) pa_nil)) (fun _ _ => rfl)) (pg_tup rfl (pgs_cons (pg_name (i := 1) sc_shaped_instruction.nd rfl (Or.inl rfl)) (pgs_cons (pg_name (i := 2) sc_shaped_instruction.nd rfl (Or.inl rfl)) pgs_nil))))
      (pss_cons (ps_if (pt_cmpR op_ne (pe_callB call_len_seq (by rfl) T.f_len (by decide +kernel) (pa_cons (pv 0) pa_nil)) (pe_op op_add (pe_op op_add pe_int (pv 1)) (pv 2)) (nomark _))
        (pss_one (ps_ret pe_non))
        pss_nil)
      (pss_cons (ps_setLc (i := 3) (own := [("word", 5)]) (g := gName 5) (tt := tYes) rfl sc_shaped_instruction.nd rfl rfl (sw_true rfl rfl rfl (by decide +kernel)) (pi_list (pe_slice sl_list (pv 0) (po_some pe_int) (po_some (pe_op op_add pe_int (pv 1))))) (blkOk_by (own := [("word", 5)]) (N := N_shaped_instruction) (sc := defScope s_shaped_instruction) (by decide +kernel)) (fun _ _ _ _ _ => pg_name (i := 5) sc_shaped_instruction.nd rfl (Or.inl rfl)) (fun _ _ _ _ _ => pts_nil) (fun _ _ _ _ _ => (pe_c c_register_in hr (by decide) (by rfl) (pa_cons (pv 5) pa_nil))))
      (pss_cons (ps_set (i := 4) sc_shaped_instruction.nd rfl (Or.inl rfl) (pe_c c_values_in hr (by decide) (by rfl) (pa_cons (pe_slice sl_list (pv 0) (po_some (pe_op op_add pe_int (pv 1))) po_none) pa_nil)))
      (pss_cons (ps_if (PW.pt (pw_or (pt_cmpR op_isN (pv 4) pe_non (nomark _)) (pw_or1 (pt_val (pe_callB (cr_any rfl) (by rfl) T.f_any (by decide +kernel) (pa_cons (pe_lc (own := [("which", 6)]) (g := gName 6) (tt := tYes) rfl sc_shaped_instruction.nd (pi_list (pv 3)) (blkOk_by (own := [("which", 6)]) (N := N_shaped_instruction) (sc := defScope s_shaped_instruction) (by decide +kernel)) (fun _ _ _ _ _ => pg_name (i := 6) sc_shaped_instruction.nd rfl (Or.inl rfl)) (fun _ _ _ _ _ => pts_nil) (fun _ _ _ _ _ => (pe_cmpR op_isN (pv 6) pe_non (nomark _)))) pa_nil))))))
        (pss_one (ps_ret pe_non))
        pss_nil)
      (pss_one (ps_ret (pe_tup (pa_cons pe_str (pa_cons pe_int (pa_cons (pe_tup (pa_cons (pe_ix ix_list (pv 0) pe_int (fun _ _ => rfl)) (pa_cons (pv 3) (pa_cons (pv 4) pa_nil)))) pa_nil))))))))))), ?_⟩
    obtain ⟨t, hk, ht⟩ := fshape_get T hsh
    have ha3 : a ≤ 3 := (fsh_small _ hsh).1
    have hb1 : b ≤ 1 := (fsh_small _ hsh).2
    have hal : (a : Int) = ((regs.map fun r => strV (regW r)).length : Int) := by rw [List.length_map, ha]
    have hlen : (strV n :: ((regs.map fun r => strV (regW r)) ++ ws.map strV)).length = 1 + a + b := by
      simp [ha, hb]
      omega
    refine ⟨_, rfl, W, _, 0, _, rfl, rfl, hS, atI_nat (j := 0) rfl, _, f, rfl, hf, _, _, _, rfl, rfl, hk, t, _, rfl, ht _, rfl, _, _, rfl, _, _, rfl, rfl, ?_⟩
    refine ⟨_, rfl, W, _, rfl, .inl hS, _, rfl, _, _, rfl, rfl, _, rfl, _, _, rfl, rfl, rfl, _, rfl, ?_⟩
    dsimp only
    rw [hlen]
    refine iteNF (by congr 1) ?_
    refine ⟨_, rfl, _, rfl, _, rfl, _, _, rfl, rfl, _, rfl, W, _, rfl, hS, fun u nu => ?_⟩
    rw [cut_regs _ _ _ _ hal]
    generalize hH : upd _ u _ = H2
    have s2 := new_same hH nu
    have e2 := new_at hH
    refine ⟨u, rfl, ⟨_, .inl (.inl e2)⟩, fun D hD => ?_⟩
    refine lc_vals (walk_list (xs := regs.map fun r => strV (regW r))) hD (by rw [List.length_map]; omega) (fun i => .int ((regs.getD i 0 : Nat) : Int)) (fun H1 s1 => s1.seq (.inl (.inl e2))) (fun i x H1 H2 C Cf hi s1 y k => ?_) (fun H3 s3 e3 => ?_)
    · obtain ⟨rfl, hx⟩ := y
      rw [List.getElem?_map] at hx
      obtain ⟨r, hr1, rfl⟩ := Option.map_eq_some_iff.mp hx
      refine ⟨rfl, yes_in ⟨_, rfl, r, rfl, hr8 r (List.mem_of_getElem? hr1), ?_⟩⟩
      have := k _ (Same.refl _)
      rw [List.getD_eq_getElem?_getD, hr1] at this
      exact this
    · rw [List.length_map] at e3
      have e3' : H3 D = some (.lst (regs.map fun r : Nat => V.int (r : Int))) := by
        rw [e3]
        exact congrArg (fun z => some (HO.lst z)) (range_map regs (fun r : Nat => V.int (r : Int)) 0)
      have s13 := s2.trans s3
      refine ⟨_, rfl, _, rfl, _, _, rfl, rfl, _, rfl, W, _, rfl, s13.seq hS, fun g ng => ?_⟩
      rw [cut_vals _ _ _ _ hal]
      generalize hH : upd _ g _ = H4
      have s4 := new_same hH ng
      have e4 := new_at hH
      refine ⟨g, ws, vals, rfl, .inl (.inl e4), by omega, hw, hv, fun H5 L s5 hvL => ?_⟩
      have s15 := s13.trans (s4.trans s5)
      refine ⟨_, rfl, rfl, _, rfl, iteF ?_⟩
      have eD5 := s5 _ _ (s4 _ _ e3')
      refine ⟨_, rfl, D, rfl, ⟨_, .inl (.inl eD5)⟩, fun D2 hD2 => ?_⟩
      refine lc_vals (walk_list (xs := regs.map fun r : Nat => V.int (r : Int))) hD2 (by rw [List.length_map]; omega) (fun _ => .bl false) (fun H1 s1 => s1.seq (.inl (.inl eD5))) (fun i x H1 H2 C Cf hi s1 y k => ?_) (fun H6 s6 e6 => ?_)
      · obtain ⟨rfl, hx⟩ := y
        rw [List.getElem?_map] at hx
        obtain ⟨r, hr1, rfl⟩ := Option.map_eq_some_iff.mp hx
        exact ⟨rfl, yes_in ⟨_, rfl, rfl, k _ (Same.refl _)⟩⟩
      · rw [any_false] at e6
        refine ⟨D2, _, rfl, .inl (.inl e6), _, rfl, ?_⟩
        rw [any_rep]
        refine iteF ?_
        have s16 := s15.trans s6
        refine ⟨_, rfl, W, _, 0, _, rfl, rfl, s16.seq hS, atI_nat (j := 0) rfl, _, rfl, _, rfl, sz (by show 3 ≤ 1000000; decide), fun t1 nt1 => ?_⟩
        generalize hH : upd _ t1 _ = H7
        have s7 := new_same hH nt1
        have e7 := new_at hH
        refine ⟨sz (by show 3 ≤ 1000000; decide), fun p np => ?_⟩
        generalize hH : upd _ p _ = H8
        have s8 := new_same hH np
        have e8 := new_at hH
        have s57 := s6.trans (s7.trans s8)
        refine q H8 p (s15.trans s57) ⟨.ref t1, e8, t1, D, L, rfl, s8 _ _ e7, s2.free hD, s57 _ _ eD5, ?_⟩
        refine ValsAt.imp (fun a h => s13.free (s4.free h)) (ValsAt.keep NoTup.nil (Keep.of_same s57) (fun a _ => by simp) hvL)
end
end K21
/-! ## WJ -/
set_option Elab.async false
set_option linter.all false
set_option maxRecDepth 100000
set_option maxHeartbeats 4000000
namespace K21
open PySem PySem.Spec PyProof.Rows L2 C8
local macro_rules | `(tactic| walk_at "adv") => `(tactic| repeat (first | refine ⟨_, rfl, ?_⟩ | refine ⟨rfl, ?_⟩ | refine ⟨_, _, rfl, rfl, ?_⟩ | refine iteT ?_ | refine iteF ?_))

def NotEq3 (ws : List (List Nat)) : Prop := ¬ (ws.length = 3 ∧ ws[1]? = some [61])
inductive Shaped : List (List Nat) → Stm → Prop where
  | empty : Shaped [] (.words [])
  | equal {n w : List Nat} {k : Int} : isNameM n = true → numM w = some k → Shaped [n, [61], w] (.equal n k)
  | data {ws : List (List Nat)} {st : Stm} : DataW ws st → NotEq3 ws → Shaped ws st
  | set {d : Nat} {w : List Nat} {v : Val} : d < 8 → valM w = some v → Shaped [cl "set", regW d, w] (.set d v)
  | op {n : List Nat} {f : Str} {a b : Nat} {regs : List Nat} {ws : List (List Nat)} {vals : List Val} : (S n, f) ∈ opsT → (f, (a, b)) ∈ fshT → regs.length = a → (∀ r ∈ regs, r < 8) → ws.length = b → ws.map valM = vals.map some →
      NotEq3 (n :: (regs.map regW ++ ws)) → Shaped (n :: (regs.map regW ++ ws)) (.one n regs vals)
theorem str_eqs : ("=" : Str) = S [61] := by decide +kernel
theorem str_dot : ("." : Str) = S [46] := by decide +kernel
theorem opsT_heads : ∀ q ∈ opsT, (∃ c r, cl q.1 = c :: r ∧ c ≠ 46) ∧ q.1 ≠ "set" ∧ q.1 ∈ opNames := by
  intro q hq
  have h1 : ∀ q ∈ opsT, ((cl q.1).head?.isSome = true ∧ (cl q.1).head? ≠ some 46) ∧ q.1 ≠ "set" := by decide +kernel
  obtain ⟨⟨h2, h3⟩, h4⟩ := h1 q hq
  refine ⟨?_, h4, List.mem_map.mpr ⟨q, hq, rfl⟩⟩
  cases e : cl q.1 with
  | nil => rw [e] at h2; cases h2
  | cons c r => exact ⟨c, r, rfl, fun z => h3 (by rw [e, z]; rfl)⟩
theorem inV_str {x : Str} {xs : List Str} (h : x ∈ xs) : inV (.str x) (xs.map V.str) = true := by
  unfold inV
  rw [List.any_map]
  refine List.any_eq_true.mpr ⟨x, h, ?_⟩
  show (x == x) = true
  exact beq_self_eq_true x
theorem data_head {ws : List (List Nat)} {st : Stm} (h : DataW ws st) : ∃ r rs, ws = (46 :: r) :: rs := by
  cases h with
  | at_ => exact ⟨_, _, rfl⟩
  | space => exact ⟨_, _, rfl⟩
  | word => exact ⟨_, _, rfl⟩
  | text => exact ⟨_, _, rfl⟩

section
variable {P : Program} {w : World} {K : PySem.W.Frag} {mg : Str → Option Value} {base : Heap}
abbrev N_shaped : List Str := ["words", "number"]
theorem sc_shaped : FnScope N_shaped ["words"] (defScope s_shaped) := ⟨rfl, rfl, rfl, by decide +kernel, rfl, by decide +kernel, by decide +kernel⟩
def sp_shaped (K : PySem.W.Frag) : Sp := fun vs H Q _ => ∃ (W : Addr) (ws : List (List Nat)) (st : Stm), vs = [.ref W] ∧ SqL K H W (ws.map strV) ∧ (∀ w ∈ ws, w ≠ [] ∧ w.length ≤ 1000 ∧ Asc w) ∧ ws.length ≤ 100000 ∧ Shaped ws st ∧
  ∀ H' p, Same H H' → StmAt (fun L => H L = none) H' p st → Q (.ref p) H'
theorem cal_shaped (T : Tx w K mg) : C8.Cal P w K mg base 6 "shaped" (sp_shaped K) [] := by
  have c_number_text := cal_number_text (P := P) (base := base) T
  have c_shaped_data := cal_shaped_data (P := P) (base := base) T
  have c_shaped_set := cal_shaped_set (P := P) (base := base) T
  have c_shaped_instruction := cal_shaped_instruction (P := P) (base := base) T
  have c_operations := cal_operations (P := P) (base := base) T
  have c_is_name_text := cal_is_name_text (P := P) (base := base) T
  refine cal_of (st := s_shaped) (ps := ["words"]) T.d_shaped T.m_shaped sc_shaped (fun _ _ _ _ _ _ us hl => match us, hl with | [_], _ => rfl) (fun vs H Q E h => ?_) (fun cdv A outer s H vs Q E hr h => ?_)
  · obtain ⟨W, ws, st, rfl, _⟩ := h
    rfl
  · obtain ⟨W, ws, st, rfl, hS, hw, hwl, hsh, q⟩ := h
    refine ⟨_, (pss_cons (ps_if (pt_cmpR (op_eqD hr.units) (pv 0) (pe_lst pa_nil) (nomark _))
        (pss_one (ps_ret (pe_tup (pa_cons pe_str (pa_cons pe_int (pa_cons (pe_lst pa_nil) pa_nil))))))
        pss_nil)
      (pss_cons (ps_if (PW.pt (pw_and (pt_cmpR op_eq (pe_callB call_len_seq (by rfl) T.f_len (by decide +kernel) (pa_cons (pv 0) pa_nil)) pe_int (nomark _)) (pw_and1 (pt_cmpR op_eq (pe_ix ix_list (pv 0) pe_int (fun _ _ => rfl)) pe_str (nomark _)))))
        (pss_cons (ps_set (i := 1) sc_shaped.nd rfl (Or.inl rfl) (pe_c c_number_text hr (by decide) (by rfl) (pa_cons (pe_ix ix_list (pv 0) pe_int (fun _ _ => rfl)) pa_nil)))
        (pss_one (ps_ret (pe_ifExp (PW.pt (pw_and (pt_val (pe_c c_is_name_text hr (by decide) (by rfl) (pa_cons (pe_ix ix_list (pv 0) pe_int (fun _ _ => rfl)) pa_nil))) (pw_and1 (pt_cmpR op_notN (pv 1) pe_non (nomark _))))) (pe_tup (pa_cons pe_str (pa_cons pe_int (pa_cons (pe_tup (pa_cons (pe_ix ix_list (pv 0) pe_int (fun _ _ => rfl)) (pa_cons (pv 1) pa_nil))) pa_nil)))) pe_non))))
        pss_nil)
      (pss_cons (ps_if (pt_cmpR op_eq (pe_ix ix_str (pe_ix ix_list (pv 0) pe_int (fun _ _ => rfl)) pe_int (fun _ _ => rfl)) pe_str (nomark _))
        (pss_one (ps_ret (pe_c c_shaped_data hr (by decide) (by rfl) (pa_cons (pv 0) pa_nil))))
        pss_nil)
      (pss_cons (ps_if (pt_cmpR op_eq (pe_ix ix_list (pv 0) pe_int (fun _ _ => rfl)) pe_str (nomark _))
        (pss_one (ps_ret (pe_c c_shaped_set hr (by decide) (by rfl) (pa_cons (pv 0) pa_nil))))
        pss_nil)
      (pss_one (ps_ret (pe_ifExp (pt_cmpR op_in_seq (pe_ix ix_list (pv 0) pe_int (fun _ _ => rfl)) (pe_c0 c_operations hr (by decide) (by rfl)) (by rfl)) (pe_c c_shaped_instruction hr (by decide) (by rfl) (pa_cons (pv 0) pa_nil)) pe_non))))))), ?_⟩
    refine ⟨_, rfl, Nat.zero_le _, fun u nu => ?_⟩
    generalize hH : upd _ u _ = H1
    have s1 := new_same hH nu
    have e1 := new_at hH
    have hS1 := s1.seq hS
    refine ⟨_, _, .lst hS1 (dp_strs _ _ ws), .lst (.inl (.inl e1)) .nil, (sh_strs fun x hx => (hw x hx).2.2).shaped (by decide), sh_nil.shaped (by decide), _, rfl, ?_⟩
    rw [eqv_nil]
    -- what is not '='
    have noteq : ∀ (w0 : List Nat) (rs : List (List Nat)) (TS1 TS2 : Prop), ws = w0 :: rs → NotEq3 ws → ∀ (C : Bool → Hp → Prop), (C false H1) →
        tAnd (tTest (tOp rEq (tCB (fun xs H Q => ∃ p ys, xs = [.ref p] ∧ (SqL K H p ys ∨ SqT K H p ys) ∧ Q (.int ys.length) H) (tCons (tVar 0) tNil)) (tC (.int 3)))) (tTest (tOp rEq (tOp (rIxL K) (tVar 0) (tC (.int 1))) (tC (.str "=")))) (L2.start N_shaped [.ref W]) H1 C := fun w0 rs _ _ e hn C hC => by
      refine ⟨_, rfl, W, _, rfl, .inl hS1, rfl, _, rfl, ?_⟩
      by_cases h3 : ws.length = 3
      · refine iteDT (by rw [List.length_map, h3]; rfl) ?_
        obtain ⟨w1, hw1⟩ : ∃ w1, ws[1]? = some w1 := ⟨ws[1]'(by omega), List.getElem?_eq_getElem (by omega)⟩
        refine ⟨_, rfl, W, _, 1, strV w1, rfl, rfl, hS1, atI_nat (j := 1) (by rw [List.getElem?_map, hw1]; rfl), ?_⟩
        rw [str_eqs]
        refine ⟨rfl, _, rfl, ?_⟩
        have : decide (strV w1 = .str (S [61])) = false := decide_eq_false fun z => hn ⟨h3, by rw [hw1, S_inj (V.str.inj z)]⟩
        rw [this]
        exact hC
      · refine iteDF (fun z => h3 ?_) hC
        have := V.int.inj z
        rw [List.length_map] at this
        omega
    have isdata : ∀ (c : Nat) (r : List Nat) (rs : List (List Nat)), ws = (c :: r) :: rs → ∀ (Q' : VK), Q' (.bl (decide (c = 46))) H1 →
        tOp rEq (tOp rIxS (tOp (rIxL K) (tVar 0) (tC (.int 0))) (tC (.int 0))) (tC (.str ".")) (L2.start N_shaped [.ref W]) H1 Q' := fun c r rs e Q' hq => by
      have hz : (S (c :: r)).length ≤ sizeLine := by
        rw [S_len]
        have := (hw (c :: r) (by rw [e]; exact List.mem_cons_self)).2.1
        exact sz (by omega)
      refine ⟨_, rfl, W, _, 0, strV (c :: r), rfl, rfl, hS1, atI_nat (j := 0) (by rw [e]; rfl), _, _, c, rfl, rfl, hz, atI_nat (j := 0) rfl, ?_⟩
      rw [str_dot]
      refine ⟨rfl, ?_⟩
      have : decide (V.str ⟨#[c]⟩ = .str (S [46])) = decide (c = 46) := by
        by_cases h : c = 46
        · rw [h, decide_eq_true rfl, decide_eq_true rfl]
        · rw [decide_eq_false h, decide_eq_false fun z => h (List.cons.inj (S_inj (a := [c]) (V.str.inj z))).1]
      rw [this]
      exact hq
    cases hsh with
    | empty =>
      refine iteT ⟨Nat.zero_le _, fun L nL => ?_⟩
      generalize hH : upd _ L _ = H2
      have s2 := new_same hH nL
      have e2 := new_at hH
      refine ⟨sz (by show 3 ≤ 1000000; decide), fun p np => ?_⟩
      generalize hH : upd _ p _ = H3
      have s3 := new_same hH np
      have e3 := new_at hH
      exact q H3 p (s1.trans (s2.trans s3)) ⟨.ref L, e3, L, rfl, s1.free nL, [], s3 _ _ e2, Each.nil⟩
    | @equal n w1 k h1 h2 =>
      obtain ⟨g1, g2, g3⟩ := hw n (by simp)
      obtain ⟨g4, g5, g6⟩ := hw w1 (by simp)
      refine iteF ?_
      refine ⟨_, rfl, W, _, rfl, .inl hS1, rfl, _, rfl, iteDT rfl ?_⟩
      refine ⟨_, rfl, W, _, 1, _, rfl, rfl, hS1, atI_nat (j := 1) rfl, ?_⟩
      rw [str_eqs]
      refine ⟨rfl, _, rfl, iteDT rfl ?_⟩
      refine ⟨_, rfl, W, _, 2, _, rfl, rfl, hS1, atI_nat (j := 2) rfl, w1, rfl, by omega, fun H2 s2 => ?_⟩
      rw [h2]
      refine ⟨_, rfl, W, _, 0, _, rfl, rfl, s2.seq hS1, atI_nat (j := 0) rfl, n, rfl, by omega, fun H3 s3 => ⟨_, rfl, ?_⟩⟩
      rw [h1]
      refine iteT ⟨_, rfl, rfl, _, rfl, iteT ?_⟩
      refine ⟨_, rfl, W, _, 0, _, rfl, rfl, s3.seq (s2.seq hS1), atI_nat (j := 0) rfl, _, rfl, sz (by show 2 ≤ 1000000; decide), fun t nt => ?_⟩
      generalize hH : upd _ t _ = H4
      have s4 := new_same hH nt
      have e4 := new_at hH
      refine ⟨sz (by show 3 ≤ 1000000; decide), fun p np => ?_⟩
      generalize hH : upd _ p _ = H5
      have s5 := new_same hH np
      have e5 := new_at hH
      exact q H5 p (s1.trans (s2.trans (s3.trans (s4.trans s5)))) ⟨.ref t, e5, t, rfl, s5 _ _ e4⟩
    | data h1 h2 =>
      obtain ⟨r, rs, e⟩ := data_head h1
      have ei : (ws.map fun x => PyData.str (S x)).isEmpty = false := by rw [e]; rfl
      rw [ei]
      refine iteF (noteq _ _ True True e h2 _ (iteF ?_))
      refine isdata _ _ _ e _ ⟨_, rfl, iteT ⟨_, rfl, W, ws, st, rfl, hS1, fun w1 h => (hw w1 h).2.1, h1, fun H2 p s2 h => q H2 p (s1.trans s2) ?_⟩⟩
      obtain ⟨y, e3, h3⟩ := h
      exact ⟨y, e3, h3.imp fun a h => s1.free h⟩
    | @set d w1 v h1 h2 =>
      refine iteF (noteq _ _ True True rfl ?_ _ (iteF ?_))
      · rintro ⟨_, h⟩
        have := Option.some.inj h
        cases this
      · refine isdata 115 _ _ rfl _ ⟨_, rfl, iteF ?_⟩
        refine ⟨_, rfl, W, _, 0, _, rfl, rfl, hS1, atI_nat (j := 0) rfl, rfl, _, rfl, iteDT rfl ?_⟩
        refine ⟨_, rfl, W, _, d, w1, v, rfl, hS1, h1, by have := (hw w1 (by simp)).2.1; omega, h2, fun H2 p s2 h => q H2 p (s1.trans s2) ?_⟩
        obtain ⟨y, e3, h3⟩ := h
        exact ⟨y, e3, h3.imp fun a h => s1.free h⟩
    | @op n f a b regs ws2 vals h1 h2 h3 h4 h5 h6 h7 =>
      obtain ⟨⟨c, r, hc, hc46⟩, hset, hin⟩ := opsT_heads _ h1
      have hn : n = c :: r := hc
      refine iteF (noteq _ _ True True rfl h7 _ (iteF ?_))
      refine isdata c r _ (by rw [← hn]) _ ⟨_, rfl, iteDF hc46 ?_⟩
      refine ⟨_, rfl, W, _, 0, _, rfl, rfl, hS1, atI_nat (j := 0) rfl, rfl, _, rfl, iteDF (fun z => hset (V.str.inj z)) ?_⟩
      refine ⟨_, rfl, W, _, 0, _, rfl, rfl, hS1, atI_nat (j := 0) rfl, rfl, fun H2 O s2 nO eO => ?_⟩
      refine ⟨O, _, rfl, .inl (.inl (.inl eO)), rfl, by decide +kernel, _, rfl, ?_⟩
      show if inV (.str (S n)) (opNames.map V.str) = true then _ else _
      rw [inV_str hin]
      refine iteT ⟨_, rfl, W, n, f, a, b, regs, ws2, vals, rfl, ?_, h1, h2, h3, h4, h5, fun w1 hw1 => by have := (hw w1 (by simp [hw1])).2.1; omega, h6, fun H3 p s3 h => q H3 p (s1.trans (s2.trans s3)) ?_⟩
      · have := s2.seq hS1
        simp only [List.map_cons, List.map_append, List.map_map] at this
        exact this
      · obtain ⟨y, e3, h3⟩ := h
        exact ⟨y, e3, h3.imp fun a h => s1.free (s2.free h)⟩
end
end K21
/-! ## K21Rng -/
set_option Elab.async false
set_option linter.all false
set_option maxRecDepth 100000
set_option maxHeartbeats 4000000
namespace K21
open PySem PySem.Spec PyProof.Rows L2 PySem.Calls
/-! a range object: its last number, a walk over it -/
theorem rsize (a b : Int) (h : a < b) : Builtin.Range.rangeSize a b 1 = b - a := by
  rw [rangeSize_one]
  split <;> omega
theorem q_rlast (r : Addr) (a b : Int) (t u v k : Tok) (hab : a < b) :
    Meets (Builtin.«range.__getitem__» ⟨[.ref r, .int (-1) k], []⟩) (fun _ R s => s.heap.get? r = some { cls := .type "range", dict := none, data := .fields #[.int a t, .int b u, .int 1 v], slots := #[] } ∧ R (.ok (.ret (.int (b - 1) s.toks))) { s with toks := s.toks + 1 }) :=
  .of_wp fun prog w A R s h => by
    obtain ⟨hp, g, d, tk, os⟩ := s; obtain ⟨hl, h⟩ := h; wp_walk
    rw [F.slot_int_index.lookup]
    wp_walk
    have e1 : (-1 : Int) + Builtin.Range.rangeSize a b 1 = b - a - 1 := by rw [rsize a b hab]; omega
    have e2 : (if (-1 : Int) < 0 then -1 + Builtin.Range.rangeSize a b 1 else -1) = b - a - 1 := by rw [if_pos (by decide)]; exact e1
    rw [e2]
    refine wpAny_ite_false ?_ ?_
    · rw [rsize a b hab, decide_eq_false (show ¬ b - a - 1 < 0 by omega), decide_eq_false (show ¬ b - a - 1 ≥ b - a by omega)]
      rfl
    · have e3 : a + (b - a - 1) * 1 = b - 1 := by omega
      dsimp only
      rw [e3]
      wp_walk
      exact ⟨_, rfl, h⟩
/-- r[-1] -/
def rIxR : R2 := fun x y H Q => ∃ (p : Addr) (lo hi : Int), x = .ref p ∧ y = .int (-1) ∧ H p = some (.rng lo hi) ∧ lo < hi ∧ Q (.int (hi - 1)) H
theorem ix_rng {X : Cx} : IxR X rIxR := by
  intro value slice pins s σ H x y v u Q I rx ry h hs
  obtain ⟨p, lo, hi, rfl, rfl, hp, hlt, q⟩ := h
  cases rx
  obtain ⟨k, rfl⟩ := ry
  obtain ⟨t1, t2, t3, ho⟩ := I.hok p _ hp
  have hT : s.TypeIs (.ref p) "range" := ⟨_, ho, rfl⟩
  refine subscriptTail_builtinR (x := .int (hi - 1) s.toks) hT F.slot_range_getitem.lookup ?_ hs
  refine getItem_slot hT (by decide) F.slot_range_getitem (call_meets F.slot_range_getitem hT F.entry_range_getitem (F.args_range_getitem_2 _ _) (q_rlast p lo hi t1 t2 t3 k hlt) ⟨ho, rfl, ?_⟩)
  exact ⟨.int (hi - 1), H, I.tok _, ⟨_, rfl⟩, q⟩
/-- for .. in r, r a range object -/
def iRngO (te : TE) : TI := fun σ H R => te σ H fun v H1 => ∃ (p : Addr) (lo hi : Int), v = .ref p ∧ H1 p = some (.rng lo hi) ∧ (-(2 ^ 62) ≤ lo ∧ lo < 2 ^ 62 ∧ -(2 ^ 62) ≤ hi ∧ hi < 2 ^ 62) ∧ R (Itr lo (hi - lo).toNat) H1
theorem pi_rng {X : Cx} {tg e : Expr} {te : TE} (he : PE X e te) : PI X tg e (iRngO te) := by
  refine ⟨fun pins s σ H R I h => ?_⟩
  refine thn (he.run pins s σ H _ I h) fun v s1 ⟨x, H1, I1, r1, p, lo, hi, ex, hp, ⟨b1, b2, b3, b4⟩, q⟩ => ?_
  subst ex
  cases r1
  obtain ⟨t1, t2, t3, ho⟩ := I1.hok p _ hp
  refine wpAny_pyIter_range ho (small_one b1 b2 b3 b4) ?_
  refine ⟨s1.heap.objs.size, [s1.heap.objs.size], _, _, H1, rfl, I1.kept (t' := s1.toks) fun b o e => Heap.get?_push_of_some _ e, turn_range _ lo (hi - lo).toNat, ?_, fun b hb => ?_, q⟩
  · have e1 : lo + ((0 : Nat) : Int) * 1 = lo := by simp
    have e2 : (((hi - lo).toNat : Nat) : Int) - ((0 : Nat) : Int) = Builtin.Range.rangeSize lo hi 1 := by rw [rangeSize_one]; split <;> omega
    show IsRangeIter _ _ (lo + ((0 : Nat) : Int) * 1) ((((hi - lo).toNat : Nat) : Int) - ((0 : Nat) : Int)) 1
    rw [e1, e2]
    exact Heap.get?_push_size _ rfl
  · have e : b = s1.heap.objs.size := by simpa using hb
    subst e
    exact I1.fpOk (Nat.le_refl _) (I1.hok.fresh (Nat.le_refl _))
end K21
/-! ## K21Lay -/
set_option Elab.async false
set_option linter.all false
set_option maxRecDepth 100000
set_option maxHeartbeats 4000000
namespace K21
open PySem PySem.Spec PyProof.Rows L2
/-! the layout of a text as it lies in the heap -/
theorem gn1 : ¬ ("own_place" : Str) = "own_names" := by decide +kernel
theorem gn2 : ¬ ("own_place" : Str) = "own_taken" := by decide +kernel
theorem gn3 : ¬ ("own_place" : Str) = "own_rows" := by decide +kernel
theorem gn4 : ¬ ("own_names" : Str) = "own_taken" := by decide +kernel
theorem gn5 : ¬ ("own_names" : Str) = "own_rows" := by decide +kernel
theorem gn6 : ¬ ("own_taken" : Str) = "own_rows" := by decide +kernel
theorem gn1' : ¬ ("own_names" : Str) = "own_place" := fun e => gn1 e.symm
theorem gn2' : ¬ ("own_taken" : Str) = "own_place" := fun e => gn2 e.symm
theorem gn3' : ¬ ("own_rows" : Str) = "own_place" := fun e => gn3 e.symm
theorem gn4' : ¬ ("own_taken" : Str) = "own_names" := fun e => gn4 e.symm
theorem gn5' : ¬ ("own_rows" : Str) = "own_names" := fun e => gn5 e.symm
theorem gn6' : ¬ ("own_rows" : Str) = "own_taken" := fun e => gn6 e.symm
def lf (p : Int) (N Tk R : Addr) : List (Str × V) := putF "own_rows" (.ref R) (putF "own_taken" (.ref Tk) (putF "own_names" (.ref N) (putF "own_place" (.int p) [])))
theorem lf_eq (p : Int) (N Tk R : Addr) : lf p N Tk R = ([("own_place", V.int p), ("own_names", V.ref N), ("own_taken", V.ref Tk), ("own_rows", V.ref R)] : List (Str × V)) := by
  unfold lf putF
  simp only [putF, gn1, gn2, gn3, gn4, gn5, gn6, if_false]
theorem lf_place (p : Int) (N Tk R : Addr) : (lf p N Tk R).lookup ("own_place" : Str) = some (.int p) := by
  unfold lf
  rw [lookup_putF, if_neg gn3, lookup_putF, if_neg gn2, lookup_putF, if_neg gn1, lookup_putF, if_pos rfl]
theorem lf_names (p : Int) (N Tk R : Addr) : (lf p N Tk R).lookup ("own_names" : Str) = some (.ref N) := by
  unfold lf
  rw [lookup_putF, if_neg gn5, lookup_putF, if_neg gn4, lookup_putF, if_pos rfl]
theorem lf_taken (p : Int) (N Tk R : Addr) : (lf p N Tk R).lookup ("own_taken" : Str) = some (.ref Tk) := by
  unfold lf
  rw [lookup_putF, if_neg gn6, lookup_putF, if_pos rfl]
theorem lf_rows (p : Int) (N Tk R : Addr) : (lf p N Tk R).lookup ("own_rows" : Str) = some (.ref R) := by
  unfold lf
  rw [lookup_putF, if_pos rfl]
theorem lf_no (p : Int) (N Tk R : Addr) {m : Str} (h1 : ¬ m = "own_place") (h2 : ¬ m = "own_names") (h3 : ¬ m = "own_taken") (h4 : ¬ m = "own_rows") : (lf p N Tk R).lookup m = none := by
  unfold lf
  rw [lookup_putF, if_neg h4, lookup_putF, if_neg h3, lookup_putF, if_neg h2, lookup_putF, if_neg h1]
  rfl
theorem lf_put (p q : Int) (N Tk R : Addr) : putF "own_place" (.int q) (lf p N Tk R) = lf q N Tk R := by
  rw [lf_eq, lf_eq]
  show (if ("own_place" : Str) = "own_place" then (("own_place" : Str), V.int q) :: _ else _) = _
  rw [if_pos rfl]
theorem lf_len (p : Int) (N Tk R : Addr) : (lf p N Tk R).length = 4 := by rw [lf_eq]; rfl
structure Row where
  line : Int
  place : Nat
  st : Stm
structure LaySt where
  place : Nat
  names : List Nm
  rows : List Row
def RowR (F : Addr → Prop) (y : V) (r : Row) (H : Hp) : Prop := ∃ a v, y = .ref a ∧ H a = some (.tup [.int r.line, .int (r.place : Int), .str r.st.kind, v]) ∧ ToldAt F H v r.st
theorem RowR.keep {Sx : List Addr} {F : Addr → Prop} {H H' : Hp} (n : NoTup Sx H) (k : Keep Sx H H') (hF : ∀ a, F a → a ∉ Sx) {y : V} {r : Row} (h : RowR F y r H) : RowR F y r H' := by
  obtain ⟨a, v, e, h1, h2⟩ := h
  exact ⟨a, v, e, k _ _ (n.out h1) h1, h2.keep n k hF⟩
def TakenAt (H : Hp) (Tk : Addr) (p : Nat) : Prop := ∃ kvs, H Tk = some (.dK kvs) ∧ kvs.length ≤ p ∧ ∀ kv ∈ kvs, ∃ j : Nat, kv.1 = .inl (j : Int) ∧ j < p
/-- Sx: all that may change -/
structure LayAt (C : Addr) (Sx : List Addr) (H : Hp) (x dx N Tk R : Addr) (s : LaySt) : Prop where
  ins : H x = some (.ins C dx (lf s.place N Tk R))
  names : NamesAt H N s.names
  taken : TakenAt H Tk s.place
  rows : ∃ ys, H R = some (.lst ys) ∧ Each (RowR fun L => L ∉ Sx) H ys s.rows
  apart : N ≠ Tk
  mem : x ∈ Sx ∧ N ∈ Sx ∧ Tk ∈ Sx ∧ R ∈ Sx
  notup : NoTup Sx H
  alive : ∀ a ∈ Sx, H a ≠ none
  small : s.place ≤ 960 ∧ s.names.length ≤ 1000 ∧ s.rows.length ≤ 1000
theorem NoTup.same {Sx : List Addr} {H H' : Hp} (n : NoTup Sx H) (s : Same H H') (hs : ∀ a ∈ Sx, H a ≠ none) : NoTup Sx H' := fun a m xs e => by
  cases q : H a with
  | none => exact hs a m q
  | some o =>
    have := s _ _ q
    rw [this] at e
    exact n a m xs (q.trans e)
theorem alive_same {Sx : List Addr} {H H' : Hp} (h : ∀ a ∈ Sx, H a ≠ none) (s : Same H H') : ∀ a ∈ Sx, H' a ≠ none := fun a m e => h a m (s.free e)
theorem alive_upd {Sx : List Addr} {H : Hp} {p : Addr} {o : HO} (h : ∀ a ∈ Sx, H a ≠ none) : ∀ a ∈ Sx, upd H p o a ≠ none := fun a m e => by
  by_cases z : a = p
  · rw [z, upd_same] at e
    cases e
  · rw [upd_ne z] at e
    exact h a m e
theorem LayAt.same {C : Addr} {Sx : List Addr} {H H' : Hp} {x dx N Tk R : Addr} {s : LaySt} (h : LayAt C Sx H x dx N Tk R s) (k : Same H H') : LayAt C Sx H' x dx N Tk R s := by
  obtain ⟨ys, e, hy⟩ := h.rows
  obtain ⟨kvs, e2, h2⟩ := h.taken
  exact ⟨k _ _ h.ins, h.names.keep NoTup.nil (Keep.of_same k) (by simp), ⟨kvs, k _ _ e2, h2⟩, ⟨ys, k _ _ e, hy.imp fun y d r => r.keep NoTup.nil (Keep.of_same k) fun a _ => by simp⟩, h.apart, h.mem, h.notup.same k h.alive, alive_same h.alive k, h.small⟩
def labN (lab : Option (List Nat)) (p : Nat) : List Nm := match lab with
  | none => []
  | some n => [(n, true, (p : Int))]
def takeM (s : LaySt) (num : Int) (lab : Option (List Nat)) : Stm → LaySt
  | .equal n k => { s with names := s.names ++ [(n, false, k)] }
  | .at_ p => { s with place := p.toNat, names := s.names ++ labN lab p.toNat }
  | st => { place := s.place + st.size, names := s.names ++ labN lab s.place, rows := s.rows ++ [⟨num, s.place, st⟩] }
/-- what is asked of a line -/
def TakeOk (s : LaySt) (lab : Option (List Nat)) : Stm → Prop
  | .equal n _ => lab = none ∧ look s.names n = none
  | .at_ p => (s.place : Int) ≤ p ∧ p ≤ 959 ∧ ∀ n, lab = some n → look s.names n = none
  | st => s.place + st.size ≤ 960 ∧ ∀ n, lab = some n → look s.names n = none
end K21
/-! ## WK -/
set_option Elab.async false
set_option linter.all false
set_option maxRecDepth 100000
set_option maxHeartbeats 4000000
namespace K21
open PySem PySem.Spec PyProof.Rows L2 C8
local macro_rules | `(tactic| walk_at "adv") => `(tactic| repeat (first | refine ⟨_, rfl, ?_⟩ | refine ⟨rfl, ?_⟩ | refine ⟨_, _, rfl, rfl, ?_⟩ | refine iteT ?_ | refine iteF ?_))

theorem tt_w {tt : TT} {σ : L2.St} {H : Hp} {Q : Bool → Hp → Prop} (b : Bool) (Pr : Hp → Prop) (key : ∀ H3, Pr H3 → Q b H3) (h : ∀ Q' : Bool → Hp → Prop, (∀ H3, Pr H3 → Q' b H3) → tt σ H Q') : tt σ H Q := h Q key
theorem g_of {i : Nat} {v : V} {σ : L2.St} {H : Hp} {k : L2.St → Hp → Prop} (h : k (List.set σ i (some v)) H) : gName i v σ H k := h
theorem s_of {a b : TS} {D : Ends} {σ : L2.St} {H : Hp} (h : a { D with nx := b D } σ H) : tSeq a b D σ H := h
theorem i_of {c : TT} {a b : TS} {D : Ends} {σ : L2.St} {H : Hp} (h : c σ H fun d H1 => if d = true then a D σ H1 else b D σ H1) : tIfS c a b D σ H := h
def Lx (x N Tk R : Addr) : List Addr := [x, N, Tk, R]
theorem lx_N (x N Tk R : Addr) : ∀ b, b ∈ [N] → b ∈ Lx x N Tk R := fun b hb => by
  have : b = N := by simpa using hb
  simp [Lx, this]
theorem lx_T (x N Tk R : Addr) : ∀ b, b ∈ [Tk] → b ∈ Lx x N Tk R := fun b hb => by
  have : b = Tk := by simpa using hb
  simp [Lx, this]
theorem LayAt.wide {C : Addr} {Sx : List Addr} {H H1 H2 : Hp} {x dx N Tk R : Addr} {s : LaySt} (h : LayAt C Sx H x dx N Tk R s) (k : Keep (Lx x N Tk R) H1 H2) : Keep Sx H1 H2 := k.mono fun b hb => by
  obtain ⟨m1, m2, m3, m4⟩ := h.mem
  have hb' : b = x ∨ b = N ∨ b = Tk ∨ b = R := by simpa [Lx] using hb
  rcases hb' with e | e | e | e
  · rw [e]; exact m1
  · rw [e]; exact m2
  · rw [e]; exact m3
  · rw [e]; exact m4
def LowK (kvs : List (Key × V)) (p : Nat) : Prop := ∀ kv ∈ kvs, ∃ j : Nat, kv.1 = .inl (j : Int) ∧ j < p
theorem LowK.none {kvs : List (Key × V)} {p q : Nat} (h : LowK kvs p) (hq : p ≤ q) : valV kvs (.inl (q : Int)) = none := by
  cases e : valV kvs (.inl (q : Int)) with
  | none => rfl
  | some v =>
    have := valV_in e
    obtain ⟨kv, h1, h2⟩ := List.mem_map.mp this
    obtain ⟨j, h3, h4⟩ := h kv h1
    rw [h3] at h2
    have := Sum.inl.inj h2
    omega
theorem LowK.put {kvs : List (Key × V)} {p : Nat} {v : V} (h : LowK kvs p) : putK kvs (.inl (p : Int)) v = kvs ++ [(.inl (p : Int), v)] ∧ LowK (kvs ++ [(.inl (p : Int), v)]) (p + 1) := by
  refine ⟨putK_new _ (h.none (Nat.le_refl _)), fun kv m => ?_⟩
  rcases List.mem_append.mp m with m | m
  · obtain ⟨j, h3, h4⟩ := h kv m
    exact ⟨j, h3, by omega⟩
  · rw [List.mem_singleton] at m
    rw [m]
    exact ⟨p, rfl, by omega⟩
def LayInv (Tk : Addr) (H1 : Hp) (p : Nat) (a0 a1 a2 a3 a4 a5 a6 : Option V) (i : Nat) (σ : L2.St) (H : Hp) : Prop := ∃ y, σ = [a0, a1, a2, a3, a4, a5, a6, y] ∧ Keep [Tk] H1 H ∧ (∀ a, H1 a ≠ none → H a ≠ none) ∧ ∃ kvs, H Tk = some (.dK kvs) ∧ kvs.length ≤ p + i ∧ LowK kvs (p + i)
theorem pe_fldK {X : Cx} {e : Expr} {f : Str} {pos : Pos} {ta : TE} {K : PySem.W.Frag} (hK : X.K = K) (he : PE X e ta) (hb : attributeBase e f X.env (eval e X.env) = eval e X.env) : PE X (.Attribute e f pos) (tFld K ta f) := by
  subst hK
  exact pe_fld he hb
theorem paired_snoc {α β : Type} {F : α → β → Prop} {a : α} {b : β} : ∀ {l : List α} {m : List β}, Paired F l m → F a b → Paired F (l ++ [a]) (m ++ [b])
  | _, _, .nil, h => .cons h .nil
  | _, _, .cons r t, h => .cons r (paired_snoc t h)
theorem put_names {H' : Hp} {N t : Addr} {ns : List Nm} {kvs : List (Key × V)} {n : Nm} (p : Paired (NmR H') ns kvs) (hl : look ns n.1 = none) (ht : H' t = some (.tup [.str (sortS n.2.1), .int n.2.2])) (e : H' N = some (.dK (putK kvs (.inr (S n.1)) (.ref t)))) : NamesAt H' N (ns ++ [n]) := by
  rcases names_look p n.1 with ⟨_, h⟩ | ⟨z, t, h, _⟩
  · rw [putK_new _ h] at e
    exact ⟨_, e, paired_snoc p ⟨rfl, t, rfl, ht⟩⟩
  · rw [hl] at h
    cases h
theorem layNoTup {C : Addr} {Sx : List Addr} {H : Hp} {x dx N Tk R : Addr} {s : LaySt} (h : LayAt C Sx H x dx N Tk R s) : x ≠ N ∧ x ≠ Tk ∧ x ≠ R ∧ N ≠ R ∧ Tk ≠ R := by
  obtain ⟨kvs, e1, _⟩ := h.names
  obtain ⟨kvs2, e2, _⟩ := h.taken
  obtain ⟨ys, e3, _⟩ := h.rows
  exact ⟨ne_of h.ins e1 (by intro z; cases z), ne_of h.ins e2 (by intro z; cases z), ne_of h.ins e3 (by intro z; cases z), ne_of e1 e3 (by intro z; cases z), ne_of e2 e3 (by intro z; cases z)⟩
theorem NoTup.upd {Sx : List Addr} {H : Hp} {a : Addr} {o : HO} (n : NoTup Sx H) (h : ∀ xs, o ≠ .tup xs) : NoTup Sx (upd H a o) := fun b m xs e => by
  by_cases hb : b = a
  · rw [hb, upd_same] at e
    exact h xs (Option.some.inj e)
  · rw [upd_ne hb] at e
    exact n b m xs e

section
variable {P : Program} {w : World} {K : PySem.W.Frag} {mg : Str → Option Value} {base : Heap}
abbrev N_Layout_init : List Str := ["self"]
theorem sc_Layout_init : FnScope N_Layout_init ["self"] (defScope s_Layout_init) := ⟨rfl, rfl, rfl, by decide +kernel, rfl, by decide +kernel, by decide +kernel⟩
def sp_Layout_init (C : Addr) : Sp := fun vs H Q _ => ∃ x dx : Addr, vs = [.ref x] ∧ H x = some (.ins C dx []) ∧
  ∀ H' N Tk R, Keep [x] H H' → H N = none → H Tk = none → H R = none → N ≠ Tk → H' x = some (.ins C dx (lf 0 N Tk R)) → H' N = some (.dK []) → H' Tk = some (.dK []) → H' R = some (.lst []) → Q .non H'
theorem mak_Layout (T : Tx w K mg) : C8.Mak P w K mg base 1 "Layout" (He.ga K "Layout") (sp_Layout_init (He.ga K "Layout")) [] := by
  refine mak_of (st := s_Layout_init) (ps := ["self"]) T.mk_Layout T.m_Layout T.d_Layout_init sc_Layout_init (fun _ _ _ _ _ _ us hl => match us, hl with | [_], _ => rfl) (fun vs H Q E h => ?_) (fun cdv A outer s H vs Q E hr h => ?_)
  · obtain ⟨x, dx, rfl, _⟩ := h
    rfl
  · obtain ⟨x, dx, rfl, hx, q⟩ := h
    refine ⟨_, (pss_cons (ps_fld (pv 0) pe_int rfl)
      (pss_cons (ps_fld (pv 0) pe_dnewK rfl)
      (pss_cons (ps_fld (pv 0) pe_dnewK rfl)
      (pss_one (ps_fld (pv 0) (pe_lst pa_nil) rfl))))), ?_⟩
    refine ⟨_, rfl, x, _, dx, _, rfl, hx, T.cl_Layout, T.na_Layout_own_place, by decide, ?_⟩
    generalize hH : upd _ x _ = H1
    have k1 : Keep [x] H H1 := by rw [← hH]; exact Keep.put (by simp)
    have e1 := new_at hH
    refine fun N nN => ?_
    generalize hH : upd _ N _ = H2
    have s2 := new_same hH nN
    have eN := new_at hH
    refine ⟨_, rfl, x, _, dx, _, rfl, s2 _ _ e1, T.cl_Layout, T.na_Layout_own_names, by decide, ?_⟩
    generalize hH : upd _ x _ = H3
    have k3 : Keep [x] H2 H3 := by rw [← hH]; exact Keep.put (by simp)
    have e3 := new_at hH
    have xN : N ≠ x := fun z => by rw [z, e1] at nN; cases nN
    refine fun Tk nT => ?_
    generalize hH : upd _ Tk _ = H4
    have s4 := new_same hH nT
    have eT := new_at hH
    have xT : Tk ≠ x := fun z => by rw [z, e3] at nT; cases nT
    refine ⟨_, rfl, x, _, dx, _, rfl, s4 _ _ e3, T.cl_Layout, T.na_Layout_own_taken, by show 2 < 1000; decide, ?_⟩
    generalize hH : upd _ x _ = H5
    have k5 : Keep [x] H4 H5 := by rw [← hH]; exact Keep.put (by simp)
    have e5 := new_at hH
    refine ⟨Nat.zero_le _, fun R nR => ?_⟩
    generalize hH : upd _ R _ = H6
    have s6 := new_same hH nR
    have eR := new_at hH
    have xR : R ≠ x := fun z => by rw [z, e5] at nR; cases nR
    refine ⟨_, rfl, x, _, dx, _, rfl, s6 _ _ e5, T.cl_Layout, T.na_Layout_own_rows, by show 3 < 1000; decide, ?_⟩
    generalize hH : upd _ x _ = H7
    have k7 : Keep [x] H6 H7 := by rw [← hH]; exact Keep.put (by simp)
    have e7 := new_at hH
    have kA : Keep [x] H H2 := k1.trans (Keep.of_same s2)
    have kB : Keep [x] H H4 := kA.trans (k3.trans (Keep.of_same s4))
    have kC : Keep [x] H H6 := kB.trans (k5.trans (Keep.of_same s6))
    have eN3 := k3.one xN eN
    have NT : N ≠ Tk := ne_of_none eN3 nT
    refine q H7 N Tk R (kC.trans k7) (fresh_keep k1 (by simp [xN]) nN) (fresh_keep (kA.trans k3) (by simp [xT]) nT) (fresh_keep (kB.trans k5) (by simp [xR]) nR) NT e7 ?_ ?_ ?_
    · exact k7.one xN (s6 _ _ (k5.one xN (s4 _ _ eN3)))
    · exact k7.one xT (s6 _ _ (k5.one xT eT))
    · exact k7.one xR eR
abbrev N_Layout_tell : List Str := ["self", "name", "sort", "number"]
theorem sc_Layout_tell : FnScope N_Layout_tell ["self", "name", "sort", "number"] (defScope s_Layout_tell) := ⟨rfl, rfl, rfl, by decide +kernel, rfl, by decide +kernel, by decide +kernel⟩
def sp_Layout_tell (C : Addr) : Sp := fun vs H Q _ => ∃ (Sx : List Addr) (x dx N Tk R : Addr) (s : LaySt) (n : List Nat) (b : Bool) (k : Int), vs = [.ref x, .str (S n), .str (sortS b), .int k] ∧ LayAt C Sx H x dx N Tk R s ∧ look s.names n = none ∧ s.names.length < 1000 ∧
  ∀ H', Keep (Lx x N Tk R) H H' → LayAt C Sx H' x dx N Tk R { s with names := s.names ++ [(n, b, k)] } → Q (.bl true) H'
theorem met_Layout_tell (T : Tx w K mg) : C8.Met P w K mg base 1 (He.ga K "Layout") "tell" (sp_Layout_tell (He.ga K "Layout")) [] := by
  refine met_of (st := s_Layout_tell) (ps := ["self", "name", "sort", "number"]) T.cl_Layout T.me_Layout_tell T.d_Layout_tell sc_Layout_tell (fun _ _ _ _ _ _ us hl => match us, hl with | [_, _, _, _], _ => rfl) (fun vs H Q E h => ?_) (fun cdv A outer s H vs Q E hr h => ?_)
  · obtain ⟨Sx, x, dx, N, Tk, R, st, n, b, k, rfl, _⟩ := h
    rfl
  · obtain ⟨Sx, x, dx, N, Tk, R, st, n, b, k, rfl, hL, hn, hlen, q⟩ := h
    refine ⟨_, (pss_cons (ps_if (pt_cmp (pc_din (by exact hu_of hr) (pv 1) (pe_fld (pv 0) rfl)))
        (pss_one (ps_ret pe_bl))
        pss_nil)
      (pss_cons (ps_dput (by exact hu_of hr) (pe_fld (pv 0) rfl) (pv 1) (pe_tup (pa_cons (pv 2) (pa_cons (pv 3) pa_nil))) rfl)
      (pss_one (ps_ret pe_bl)))), ?_⟩
    obtain ⟨a1, a2, a3, a4, a5⟩ := layNoTup hL
    obtain ⟨m1, m2, m3, m4⟩ := hL.mem
    obtain ⟨kvs, eN, pN⟩ := hL.names
    obtain ⟨ys, eR, hR⟩ := hL.rows
    have hno : valV kvs (.inr (S n)) = none := by
      rcases names_look pN n with ⟨_, h⟩ | ⟨z, t, h, _⟩
      · exact h
      · rw [hn] at h; cases h
    refine ⟨_, rfl, _, rfl, x, _, dx, _, _, rfl, hL.ins, T.cl_Layout, T.na_Layout_own_names, lf_names _ _ _ _, N, _, rfl, DGet.k (k := Sum.inr (S n)) eN, _, rfl, ?_⟩
    rw [hno]
    refine iteF ?_
    refine ⟨_, rfl, _, rfl, sz (by show 2 ≤ 1000000; decide), fun t nt => ?_⟩
    generalize hH : upd _ t _ = H1
    have s1 := new_same hH nt
    have e1 := new_at hH
    refine ⟨_, rfl, x, _, dx, _, _, rfl, s1 _ _ hL.ins, T.cl_Layout, T.na_Layout_own_names, lf_names _ _ _ _, _, rfl, N, _, rfl, DPut.k (k := Sum.inr (S n)) (s1 _ _ eN) (by have := names_len pN; rw [this]; exact szl (by omega)), ?_⟩
    have hL1 := hL.same s1
    have tS : t ∉ Sx := fun m => hL.alive t m nt
    have eN1 := s1 _ _ eN
    generalize hH : upd H1 N _ = H2
    have k2 : Keep [N] H1 H2 := by rw [← hH]; exact Keep.put (by simp)
    have e2 := new_at hH
    have n1 : NoTup [N] H1 := fun a m xs e => by
      have : a = N := by simpa using m
      rw [this, eN1] at e
      cases e
    have kA : Keep Sx H H2 := (Keep.of_same s1).trans (k2.mono fun b hb => by have : b = N := by simpa using hb
                                                                              rw [this]; exact m2)
    obtain ⟨tv, eT, h5, h6⟩ := hL1.taken
    obtain ⟨rv, eR1, hR1⟩ := hL1.rows
    have al2 : ∀ a ∈ Sx, H2 a ≠ none := by rw [← hH]; exact alive_upd hL1.alive
    have nt2 : NoTup Sx H2 := by rw [← hH]; exact NoTup.upd hL1.notup (fun xs z => by cases z)
    have kA4 : Keep (Lx x N Tk R) H H2 := (Keep.of_same s1).trans (k2.mono (lx_N x N Tk R))
    refine q H2 kA4 ⟨k2.one a1 hL1.ins, ?_, ⟨tv, k2.one (fun z => hL.apart z.symm) eT, h5, h6⟩, ⟨rv, k2.one (fun z => a4 z.symm) eR1, hR1.imp fun y d r => r.keep n1 k2 fun a ha z => ?_⟩, hL.apart, hL.mem, nt2, al2, hL.small.1, by show (st.names ++ [(n, b, k)]).length ≤ 1000; simp; omega, hL.small.2.2⟩
    · refine put_names (n := (n, b, k)) (Paired.mapP pN fun a kv r => (r.keep NoTup.nil (Keep.of_same s1)).keep n1 k2) hn (k2.one (fun z => tS (by rw [z]; exact m2)) e1) e2
    · have : a = N := by simpa using z
      rw [this] at ha
      exact ha m2
abbrev N_Layout_lay : List Str := ["self", "number", "statement", "kind", "many", "told", "places", "place"]
theorem sc_Layout_lay : FnScope N_Layout_lay ["self", "number", "statement"] (defScope s_Layout_lay) := ⟨rfl, rfl, rfl, by decide +kernel, rfl, by decide +kernel, by decide +kernel⟩
def sp_Layout_lay (C : Addr) : Sp := fun vs H Q _ => ∃ (Sx : List Addr) (x dx N Tk R p : Addr) (s : LaySt) (num : Int) (st : Stm), vs = [.ref x, .int num, .ref p] ∧ LayAt C Sx H x dx N Tk R s ∧ StmAt (fun L => L ∉ Sx) H p st ∧ s.place + st.size ≤ 960 ∧ s.rows.length < 1000 ∧
  ∀ H', Keep (Lx x N Tk R) H H' → LayAt C Sx H' x dx N Tk R { s with place := s.place + st.size, rows := s.rows ++ [⟨num, s.place, st⟩] } → Q (.bl true) H'
theorem met_Layout_lay (T : Tx w K mg) : C8.Met P w K mg base 1 (He.ga K "Layout") "lay" (sp_Layout_lay (He.ga K "Layout")) [] := by
  refine met_of (st := s_Layout_lay) (ps := ["self", "number", "statement"]) T.cl_Layout T.me_Layout_lay T.d_Layout_lay sc_Layout_lay (fun _ _ _ _ _ _ us hl => match us, hl with | [_, _, _], _ => rfl) (fun vs H Q E h => ?_) (fun cdv A outer s H vs Q E hr h => ?_)
  · obtain ⟨Sx, x, dx, N, Tk, R, p, s, num, st, rfl, _⟩ := h
    rfl
  · obtain ⟨Sx, x, dx, N, Tk, R, p, s0, num, st, rfl, hL, hst, hroom, hlen, q⟩ := h
    refine ⟨_, (pss_cons (ps_asg (pv 2) (pg_tup rfl (pgs_cons (pg_name (i := 3) sc_Layout_lay.nd rfl (Or.inl rfl)) (pgs_cons (pg_name (i := 4) sc_Layout_lay.nd rfl (Or.inl rfl)) (pgs_cons (pg_name (i := 5) sc_Layout_lay.nd rfl (Or.inl rfl)) pgs_nil)))))
      (pss_cons (ps_set (i := 6) sc_Layout_lay.nd rfl (Or.inl rfl) (pe_callTy cr_range2 (by rfl) T.f_range (by decide +kernel) (pa_cons (pe_fld (pv 0) rfl) (pa_cons (pe_op op_add (pe_fld (pv 0) rfl) (pv 4)) pa_nil))))
      (pss_cons (ps_if (PW.pt (pw_and (pt_cmpR op_gt (pv 4) pe_int (nomark _)) (pw_and1 (PW.pt (pw_or (pt_cmpR op_ge (pe_ix ix_rng (pv 6) (pe_un un_neg pe_int) (fun _ _ => rfl)) (pe_gc (by rfl) T.v_MEMORY_END) (nomark _)) (pw_or1 (pt_val (pe_callB (cr_any rfl) (by rfl) T.f_any (by decide +kernel) (pa_cons (pe_lc (own := [("place", 7)]) (g := gName 7) (tt := tYes) rfl sc_Layout_lay.nd (pi_rng (pv 6)) (blkOk_by (own := [("place", 7)]) (N := N_Layout_lay) (sc := defScope s_Layout_lay) (by decide +kernel)) (fun _ _ _ _ _ => pg_name (i := 7) sc_Layout_lay.nd rfl (Or.inl rfl)) (fun _ _ _ _ _ => pts_nil) (fun _ _ _ _ _ => (pe_cmp (pc_din (by exact hu_of hr) (pv 7) (pe_fldK (K := K) (by rfl) (pv 0) rfl)) rfl))) pa_nil)))))))))
        (pss_one (ps_ret pe_bl))
        pss_nil)
      (pss_cons (ps_for PassesOwn.never rfl (pi_rng (pv 6)) (pg_name (i := 7) sc_Layout_lay.nd rfl (Or.inl rfl))
        (pss_one (ps_dput (by exact hu_of hr) (pe_fld (pv 0) rfl) (pv 7) (pv 1) rfl)))
      (pss_cons (ps_expr (pe_bm PySem.F.plainAttrs_list PySem.F.slot_list_append PySem.F.type_list_append mt_append (pe_fld (pv 0) rfl) (pa_cons (pe_tup (pa_cons (pv 1) (pa_cons (pe_fld (pv 0) rfl) (pa_cons (pv 3) (pa_cons (pv 5) pa_nil))))) pa_nil)))
      (pss_cons (ps_fld (pv 0) (pe_op op_add (pe_fld (pv 0) rfl) (pv 4)) rfl)
      (pss_one (ps_ret pe_bl)))))))), ?_⟩
    obtain ⟨a1, a2, a3, a4, a5⟩ := layNoTup hL
    obtain ⟨m1, m2, m3, m4⟩ := hL.mem
    obtain ⟨tv, ep, htold⟩ := hst
    refine ⟨_, rfl, p, _, rfl, .inl (.inl ep), rfl, _, _, rfl, _, _, rfl, _, _, rfl, rfl, ?_⟩
    refine ⟨_, rfl, x, _, dx, _, _, rfl, hL.ins, T.cl_Layout, T.na_Layout_own_place, lf_place _ _ _ _, _, rfl, x, _, dx, _, _, rfl, hL.ins, T.cl_Layout, T.na_Layout_own_place, lf_place _ _ _ _, _, rfl, _, _, rfl, rfl, _, _, rfl, fun g ng => ?_⟩
    generalize hH : upd _ g _ = H1
    have s1 := new_same hH ng
    have e1 : H1 g = some (.rng (s0.place : Int) ((s0.place : Int) + (st.size : Int))) := new_at hH
    have hp9 : s0.place ≤ 960 := hL.small.1
    refine g_of ?_
    dsimp only
    refine s_of ?_
    refine i_of ?_
    refine tt_w (tt := tAnd _ _) false (fun H3 => Same H1 H3) (fun H3 s3 => ?_) (fun Q' key => ?_)
    rotate_left
    · refine ⟨_, rfl, _, _, rfl, rfl, _, rfl, ?_⟩
      by_cases hz : (0 : Int) < (st.size : Int)
      · refine iteDT hz ⟨_, rfl, _, rfl, g, _, _, rfl, rfl, e1, by omega, _, _, rfl, rfl, _, rfl, ?_⟩
        refine iteDF (by omega) ⟨_, rfl, g, _, _, rfl, e1, ⟨by omega, by omega, by omega, by omega⟩, fun D hD => ?_⟩
        refine lc_vals (walk_range (lo := (s0.place : Int)) (n := ((s0.place : Int) + (st.size : Int) - (s0.place : Int)).toNat)) hD (by omega) (fun _ => .bl false) (fun _ _ => trivial) (fun i y H2 H3 C Cf hi s2 hy k => ?_) (fun H2 s2 e2 => ?_)
        · obtain ⟨rfl, rfl⟩ := hy
          obtain ⟨kvs, eT, h5, h6⟩ := hL.taken
          have h6' : LowK kvs s0.place := h6
          refine ⟨rfl, yes_in ⟨_, rfl, _, rfl, x, _, dx, _, _, rfl, s2 _ _ (s1 _ _ hL.ins), T.cl_Layout, T.na_Layout_own_taken, lf_taken _ _ _ _, Tk, _, rfl, DGet.k (k := Sum.inl ((s0.place : Int) + (i : Int))) (s2 _ _ (s1 _ _ eT)), ?_⟩⟩
          have e : ((s0.place : Int) + (i : Int)) = ((s0.place + i : Nat) : Int) := by omega
          rw [e, h6'.none (by omega)]
          exact k _ (Same.refl _)
        · rw [any_false] at e2
          refine ⟨D, _, rfl, .inl (.inl e2), _, rfl, ?_⟩
          rw [any_rep]
          exact key _ s2
      · exact iteDF hz (key _ (Same.refl _))
    · refine iteF ?_
      have sA := s1.trans s3
      have hLA := hL.same sA
      have e3 := s3 _ _ e1
      have ep3 := sA _ _ ep
      obtain ⟨kv0, eT, h5, h6⟩ := hLA.taken
      refine ⟨_, rfl, g, _, _, rfl, e3, ⟨by omega, by omega, by omega, by omega⟩, ?_⟩
      refine for_it (walk_range (lo := (s0.place : Int)) (n := ((s0.place : Int) + (st.size : Int) - (s0.place : Int)).toNat)) (LayInv Tk H3 s0.place (some (.ref x)) (some (.int num)) (some (.ref p)) (some (.str st.kind)) (some (.int st.size)) (some tv) (some (.ref g))) ⟨none, rfl, Keep.refl _ _, fun _ h => h, kv0, eT, by omega, h6⟩ (fun _ _ _ _ _ => trivial) (fun i y σ H4 H5 hi h hy => ?_) (fun σ H4 h => ?_)
      · obtain ⟨y0, rfl, k4, al4, kv4, eT4, h7, h8⟩ := h
        obtain ⟨rfl, rfl⟩ := hy
        have ei : ((s0.place : Int) + (i : Int)) = ((s0.place + i : Nat) : Int) := by omega
        refine ⟨_, rfl, _, rfl, x, _, dx, _, _, rfl, k4.one a2 hLA.ins, T.cl_Layout, T.na_Layout_own_taken, lf_taken _ _ _ _, _, rfl, Tk, _, rfl, DPut.k (k := Sum.inl ((s0.place : Int) + (i : Int))) eT4 (szl (by omega)), ?_⟩
        rw [ei, h8.put.1]
        refine ⟨_, rfl, k4.trans (Keep.put (by simp)), fun a h z => ?_, _, upd_same, by simp; omega, h8.put.2⟩
        by_cases hb : a = Tk
        · rw [hb, upd_same] at z
          cases z
        · rw [upd_ne hb] at z
          exact al4 a h z
      · obtain ⟨y0, rfl, k4, al4, kv4, eT4, h7, h8⟩ := h
        have kA : Keep Sx H H4 := (Keep.of_same sA).trans (k4.mono fun b hb => by have : b = Tk := by simpa using hb
                                                                                  rw [this]; exact m3)
        have ins4 := k4.one a2 hLA.ins
        obtain ⟨ys, eR, hR⟩ := hLA.rows
        have eR4 := k4.one (fun z => a5 z.symm) eR
        have ep4 : H4 p = some (.tup [.str st.kind, .int st.size, tv]) := k4.one (ne_of ep3 eT (by intro z; cases z)) ep3
        have ysl := hR.1
        refine ⟨_, rfl, x, _, dx, _, _, rfl, ins4, T.cl_Layout, T.na_Layout_own_rows, lf_rows _ _ _ _, .inl ⟨rfl, _, .inl (.inl eR4)⟩, ?_⟩
        refine ⟨_, rfl, _, rfl, x, _, dx, _, _, rfl, ins4, T.cl_Layout, T.na_Layout_own_place, lf_place _ _ _ _, _, rfl, _, rfl, sz (by show 4 ≤ 1000000; decide), fun t nt => ?_⟩
        generalize hH : upd _ t _ = H5
        have s5 := new_same hH nt
        have e5 : H5 t = some (.tup [.int num, .int (s0.place : Int), .str st.kind, tv]) := new_at hH
        have ht4 : ∀ a ∈ Sx, H4 a ≠ none := fun a ha => al4 a (hLA.alive a ha)
        have tS : t ∉ Sx := fun m => ht4 t m nt
        have eR5 := s5 _ _ eR4
        refine ⟨R, ys, _, rfl, rfl, eR5, by rw [ysl]; exact szl (by omega), ?_⟩
        generalize hH : upd _ R _ = H6
        have k6 : Keep [R] H5 H6 := by rw [← hH]; exact Keep.put (by simp)
        have e6 : H6 R = some (.lst (ys ++ [.ref t])) := new_at hH
        have ins6 := k6.one a3 (s5 _ _ ins4)
        refine ⟨_, rfl, x, _, dx, _, _, rfl, ins6, T.cl_Layout, T.na_Layout_own_place, lf_place _ _ _ _, _, rfl, _, _, rfl, rfl, _, rfl, x, _, dx, _, rfl, ins6, T.cl_Layout, T.na_Layout_own_place, by rw [lf_len]; decide, ?_⟩
        rw [lf_put]
        generalize hH : upd _ x _ = H7
        have k7 : Keep [x] H6 H7 := by rw [← hH]; exact Keep.put (by simp)
        have e7 := new_at hH
        have k65 : ∀ b o, b ≠ x → b ≠ R → H5 b = some o → H7 b = some o := fun b o h1 h2 h => k7.one h1 (k6.one h2 h)
        have k57 : Keep Sx H5 H7 := fun b o hb h => k65 b o (fun z => hb (by rw [z]; exact m1)) (fun z => hb (by rw [z]; exact m4)) h
        have kB : Keep Sx H H7 := kA.trans ((Keep.of_same s5).trans k57)
        have kC : Keep Sx H3 H7 := (k4.mono fun b hb => by have : b = Tk := by simpa using hb
                                                           rw [this]; exact m3).trans ((Keep.of_same s5).trans k57)
        have htold3 : ToldAt (fun L => L ∉ Sx) H3 tv st := htold.keep NoTup.nil (Keep.of_same sA) fun a _ => by simp
        have n3 := hLA.notup
        obtain ⟨kN, eN, pN⟩ := hLA.names
        have al7 : ∀ a ∈ Sx, H7 a ≠ none := fun a ha z => by
          cases q4 : H4 a with
          | none => exact ht4 a ha q4
          | some o =>
            have q5 := s5 _ _ q4
            by_cases hx : a = x
            · rw [hx, e7] at z; cases z
            · by_cases hR2 : a = R
              · rw [hR2, k7.one (fun z => a3 z.symm) e6] at z; cases z
              · rw [k65 a o hx hR2 q5] at z; cases z
        have place_eq : (s0.place : Int) + (st.size : Int) = ((s0.place + st.size : Nat) : Int) := by omega
        rw [place_eq] at e7
        have e57 := k57 t _ tS e5
        have eN7 : H7 N = some (.dK kN) := k65 N _ (fun z => a1 z.symm) a4 (s5 _ _ (k4.one hL.apart eN))
        have eT7 : H7 Tk = some (.dK kv4) := k65 Tk _ (fun z => a2 z.symm) a5 (s5 _ _ eT4)
        have eR7 : H7 R = some (.lst (ys ++ [.ref t])) := k7.one (fun z => a3 z.symm) e6
        have nt7 : NoTup Sx H7 := fun a ha xs z => by
          cases q3 : H3 a with
          | none => exact hLA.alive a ha q3
          | some o =>
            by_cases hx : a = x
            · rw [hx, e7] at z; cases z
            by_cases hR2 : a = R
            · rw [hR2, eR7] at z; cases z
            by_cases hT2 : a = Tk
            · rw [hT2, eT7] at z; cases z
            rw [k65 a o hx hR2 (s5 _ _ (k4.one hT2 q3))] at z
            rw [z] at q3
            exact hLA.notup a ha xs q3
        have sz_eq : ((s0.place : Int) + (st.size : Int) - (s0.place : Int)).toNat = st.size := by omega
        rw [sz_eq] at h7 h8
        have kB4 : Keep (Lx x N Tk R) H H7 := (Keep.of_same sA).trans ((k4.mono (lx_T x N Tk R)).trans ((Keep.of_same s5).trans fun b o hb h => k65 b o (fun z => hb (by simp [Lx, z])) (fun z => hb (by simp [Lx, z])) h))
        refine q H7 kB4 ⟨e7, ⟨kN, eN7, Paired.mapP pN fun a kv r => r.keep n3 kC⟩, ⟨kv4, eT7, h7, h8⟩, ⟨_, eR7, ?_⟩, hL.apart, hL.mem, nt7, al7, ?_⟩
        · exact Each.snoc (hR.imp fun y d r => r.keep n3 kC fun a ha => ha) ⟨t, tv, rfl, e57, htold3.keep n3 kC fun a ha => ha⟩
        · refine ⟨hroom, hL.small.2.1, ?_⟩
          show (s0.rows ++ [_]).length ≤ 1000
          simp
          omega
end
end K21
/-! ## WL -/
set_option Elab.async false
set_option linter.all false
set_option maxRecDepth 100000
set_option maxHeartbeats 4000000
namespace K21
open PySem PySem.Spec PyProof.Rows L2 C8
local macro_rules | `(tactic| walk_at "adv") => `(tactic| repeat (first | refine ⟨_, rfl, ?_⟩ | refine ⟨rfl, ?_⟩ | refine ⟨_, _, rfl, rfl, ?_⟩ | refine iteT ?_ | refine iteF ?_))

theorem LayAt.goto {C : Addr} {Sx : List Addr} {H H7 : Hp} {x dx N Tk R : Addr} {s : LaySt} (hL : LayAt C Sx H x dx N Tk R s) {q : Nat} (h1 : s.place ≤ q) (h2 : q ≤ 960) (hH : upd H x (.ins C dx (lf q N Tk R)) = H7) : Keep (Lx x N Tk R) H H7 ∧ LayAt C Sx H7 x dx N Tk R { s with place := q } := by
  obtain ⟨a1, a2, a3, a4, a5⟩ := layNoTup hL
  obtain ⟨m1, m2, m3, m4⟩ := hL.mem
  have k7 : Keep [x] H H7 := by rw [← hH]; exact Keep.put (by simp)
  have e7 := new_at hH
  have kS : Keep Sx H H7 := by rw [← hH]; exact Keep.put m1
  obtain ⟨kvs, eN, pN⟩ := hL.names
  obtain ⟨tv, eT, h5, h6⟩ := hL.taken
  obtain ⟨rv, eR, hR⟩ := hL.rows
  refine ⟨by rw [← hH]; exact Keep.put (by simp [Lx]), e7, ⟨kvs, k7.one (fun z => a1 z.symm) eN, Paired.mapP pN fun a kv r => r.keep hL.notup kS⟩, ⟨tv, k7.one (fun z => a2 z.symm) eT, by show tv.length ≤ q; omega, fun kv m => ?_⟩, ⟨rv, k7.one (fun z => a3 z.symm) eR, hR.imp fun y d r => r.keep hL.notup kS fun a ha => ha⟩, hL.apart, hL.mem, ?_, ?_, h2, hL.small.2⟩
  · obtain ⟨j, e, h⟩ := h6 kv m
    exact ⟨j, e, by show j < q; omega⟩
  · rw [← hH]
    exact NoTup.upd hL.notup (fun xs z => by cases z)
  · rw [← hH]
    exact alive_upd hL.alive
theorem kind_ne : ("words" : Str) ≠ "equal" ∧ ("one" : Str) ≠ "equal" ∧ ("set" : Str) ≠ "equal" ∧ ("at" : Str) ≠ "equal" ∧ ("words" : Str) ≠ "at" ∧ ("one" : Str) ≠ "at" ∧ ("set" : Str) ≠ "at" := by decide +kernel
theorem seq_w {a b : TS} {D : Ends} {σ : L2.St} {H : Hp} (σ' : L2.St) (Pr : Hp → Prop) (key : ∀ H3, Pr H3 → b D σ' H3) (h : ∀ N : L2.St → Hp → Prop, (∀ H3, Pr H3 → N σ' H3) → a { D with nx := N } σ H) : tSeq a b D σ H := h _ key
theorem ValsAt.mono {F G : Addr → Prop} {H : Hp} {L : Addr} {vs : List Val} (k : ∀ a, F a → G a) (h : ValsAt F H L vs) : ValsAt G H L vs := ⟨k _ h.1, h.2⟩
theorem StmAt.mono {F G : Addr → Prop} {H : Hp} {p : Addr} (k : ∀ a, F a → G a) : ∀ {st : Stm}, StmAt F H p st → StmAt G H p st
  | .words vs, ⟨y, e, L, e2, h⟩ => ⟨y, e, L, e2, h.mono k⟩
  | .equal m i, h => h
  | .at_ p, h => h
  | .one m rs vs, ⟨y, e, t, R, L, e1, h1, f, h2, h3⟩ => ⟨y, e, t, R, L, e1, h1, k _ f, h2, h3.mono k⟩
  | .set r v, h => h
def isAt : Stm → Bool
  | .at_ _ => true
  | _ => false
def isEq : Stm → Bool
  | .equal _ _ => true
  | _ => false
theorem kind_at (st : Stm) : decide (V.str st.kind = V.str "at") = isAt st := by
  obtain ⟨h1, h2, h3, h4, h5, h6, h7⟩ := kind_ne
  have z : ∀ a b : Str, a ≠ b → decide (V.str a = V.str b) = false := fun a b h => decide_eq_false fun e => h (V.str.inj e)
  cases st with
  | words v => exact z _ _ h5
  | equal n k => exact z _ _ fun e => h4 e.symm
  | at_ p => exact decide_eq_true rfl
  | one n r v => exact z _ _ h6
  | set r v => exact z _ _ h7
theorem kind_eq (st : Stm) : decide (V.str st.kind = V.str "equal") = isEq st := by
  obtain ⟨h1, h2, h3, h4, h5, h6, h7⟩ := kind_ne
  have z : ∀ a b : Str, a ≠ b → decide (V.str a = V.str b) = false := fun a b h => decide_eq_false fun e => h (V.str.inj e)
  cases st with
  | words v => exact z _ _ h1
  | equal n k => exact decide_eq_true rfl
  | at_ p => exact z _ _ h4
  | one n r v => exact z _ _ h2
  | set r v => exact z _ _ h3
/-- where the layout stands when it comes to the label -/
def goM (s : LaySt) : Stm → LaySt
  | .at_ p => { s with place := p.toNat }
  | _ => s

section
variable {P : Program} {w : World} {K : PySem.W.Frag} {mg : Str → Option Value} {base : Heap}
abbrev N_Layout_take : List Str := ["self", "number", "line", "parts", "statement", "label", "kind"]
theorem sc_Layout_take : FnScope N_Layout_take ["self", "number", "line"] (defScope s_Layout_take) := ⟨rfl, rfl, rfl, by decide +kernel, rfl, by decide +kernel, by decide +kernel⟩
def sp_Layout_take (C : Addr) : Sp := fun vs H Q _ => ∃ (Sx : List Addr) (x dx N Tk R : Addr) (s : LaySt) (num : Int) (l : List Nat) (ws : List (List Nat)) (lab : Option (List Nat)) (rest : List (List Nat)) (st : Stm), vs = [.ref x, .int num, .str (S l)] ∧ LayAt C Sx H x dx N Tk R s ∧
  l.length ≤ 100000 ∧ Toks l ws ∧ LabOf ws lab rest ∧ (∀ w ∈ ws, w ≠ [] ∧ w.length ≤ 1000 ∧ Asc w) ∧ Shaped rest st ∧ TakeOk s lab st ∧ s.names.length < 1000 ∧ s.rows.length < 1000 ∧
  ∀ H', Keep (Lx x N Tk R) H H' → LayAt C Sx H' x dx N Tk R (takeM s num lab st) → Q (.bl true) H'
theorem met_Layout_take (T : Tx w K mg) : C8.Met P w K mg base 7 (He.ga K "Layout") "take" (sp_Layout_take (He.ga K "Layout")) [] := by
  have c_line_parts := cal_line_parts (P := P) (base := base) T
  have c_shaped := cal_shaped (P := P) (base := base) T
  have me_Layout_lay := met_Layout_lay (P := P) (base := base) T
  have me_Layout_tell := met_Layout_tell (P := P) (base := base) T
  refine met_of (st := s_Layout_take) (ps := ["self", "number", "line"]) T.cl_Layout T.me_Layout_take T.d_Layout_take sc_Layout_take (fun _ _ _ _ _ _ us hl => match us, hl with | [_, _, _], _ => rfl) (fun vs H Q E h => ?_) (fun cdv A outer s H vs Q E hr h => ?_)
  · obtain ⟨Sx, x, dx, N, Tk, R, s, num, l, ws, lab, rest, st, rfl, _⟩ := h
    rfl
  · obtain ⟨Sx, x, dx, N, Tk, R, s0, num, l, ws, lab, rest, st, rfl, hL, hl, ht, hlab, hws, hsh, hok, hnl, hrl, q⟩ := h
    refine ⟨_, (pss_cons (ps_set (i := 3) sc_Layout_take.nd rfl (Or.inl rfl) (pe_c c_line_parts hr (by decide) (by rfl) (pa_cons (pv 2) pa_nil)))
      (pss_cons (ps_set (i := 4) sc_Layout_take.nd rfl (Or.inl rfl) (pe_ifExp (pt_cmpR op_isN (pv 3) pe_non (nomark _)) pe_non (pe_c c_shaped hr (by decide) (by rfl) (pa_cons (pe_ix ix_tup (pv 3) pe_int (fun _ _ => rfl)) pa_nil))))
      (pss_cons (ps_if (pt_cmpR op_isN (pv 4) pe_non (nomark _))
        (pss_one (ps_ret pe_bl))
        pss_nil)
      (pss_cons (ps_par (i := 5) (j := 6) (by rfl) sc_Layout_take.nd rfl rfl (by decide) rfl rfl (pa_cons (pe_ix ix_tup (pv 3) pe_int (fun _ _ => rfl)) (pa_cons (pe_ix ix_tup (pv 4) pe_int (fun _ _ => rfl)) pa_nil)) (by rfl))
      (pss_cons (ps_if (pt_cmpR op_eq (pv 6) pe_str (nomark _))
        (pss_one (ps_ret (pe_and (pe_cmpR op_isN (pv 5) pe_non (nomark _)) (pe_one (pe_mt me_Layout_tell hr (by decide) (pv 0) (pa_cons (pe_ix ix_tup (pe_ix ix_tup (pv 4) pe_int (fun _ _ => rfl)) pe_int (fun _ _ => rfl)) (pa_cons pe_str (pa_cons (pe_ix ix_tup (pe_ix ix_tup (pv 4) pe_int (fun _ _ => rfl)) pe_int (fun _ _ => rfl)) pa_nil))))))))
        pss_nil)
      (pss_cons (ps_if (pt_cmpR op_eq (pv 6) pe_str (nomark _))
        (pss_one (ps_fld (pv 0) (pe_ix ix_tup (pv 4) pe_int (fun _ _ => rfl)) rfl))
        pss_nil)
      (pss_cons (ps_if (PW.pt (pw_and (pt_cmpR op_notN (pv 5) pe_non (nomark _)) (pw_and1 (pt_not (pt_val (pe_mt me_Layout_tell hr (by decide) (pv 0) (pa_cons (pv 5) (pa_cons pe_str (pa_cons (pe_fld (pv 0) rfl) pa_nil)))))))))
        (pss_one (ps_ret pe_bl))
        pss_nil)
      (pss_one (ps_ret (pe_or (pe_cmpR op_eq (pv 6) pe_str (nomark _)) (pe_one (pe_mt me_Layout_lay hr (by decide) (pv 0) (pa_cons (pv 1) (pa_cons (pv 4) pa_nil)))))))))))))), ?_⟩
    have hlen : ws.length ≤ 100000 := Nat.le_trans (toks_len ht) hl
    have hrest : ∀ w ∈ rest, w ∈ ws := fun w hw => by
      rcases hlab with ⟨_, e, _⟩ | ⟨n, _, e, _⟩
      · rw [← e]; exact hw
      · rw [e]; exact List.mem_cons_of_mem _ hw
    have hrlen : rest.length ≤ ws.length := by
      rcases hlab with ⟨_, e, _⟩ | ⟨n, _, e, _⟩
      · rw [e]; exact Nat.le_refl _
      · rw [e]; simp
    refine ⟨_, rfl, l, ws, lab, rest, rfl, hl, ht, hlab, hws, fun H1 p W s1 np nW ep eW => ?_⟩
    refine ⟨_, rfl, rfl, _, rfl, iteF ⟨_, rfl, p, _, 1, .ref W, rfl, rfl, .inl (.inl ep), atI_nat (j := 1) rfl, W, rest, st, rfl, .inl (.inl eW), fun w hw => hws w (hrest w hw), by omega, hsh, fun H2 t s2 hst => ?_⟩⟩
    have s12 := s1.trans s2
    have hL2 := hL.same s12
    have hst2 : StmAt (fun L => L ∉ Sx) H2 t st := hst.mono fun a ha m => hL.alive a m (s1.free ha)
    obtain ⟨tv, et, htold⟩ := id hst2
    have ep2 := s2 _ _ ep
    refine ⟨_, rfl, rfl, _, rfl, iteF ?_⟩
    refine ⟨_, rfl, p, _, 0, oStr lab, rfl, rfl, .inl (.inl ep2), atI_nat (j := 0) rfl, _, rfl, t, _, 0, .str st.kind, rfl, rfl, .inl (.inl et), atI_nat (j := 0) rfl, _, _, rfl, ?_⟩
    refine ⟨_, rfl, rfl, _, rfl, ?_⟩
    rw [kind_eq]
    cases hq : isEq st with
    | true =>
      obtain ⟨n, k, rfl⟩ : ∃ n k, st = .equal n k := by
        cases st with
        | equal n k => exact ⟨n, k, rfl⟩
        | words v => cases hq
        | at_ p => cases hq
        | one n r v => cases hq
        | set r v => cases hq
      obtain ⟨rfl, hno⟩ := hok
      obtain ⟨u, rfl, eu⟩ := htold
      refine iteT ⟨_, rfl, rfl, _, rfl, iteT ?_⟩
      refine ⟨_, rfl, x, dx, _, rfl, hL2.ins, lf_no _ _ _ _ (by decide +kernel) (by decide +kernel) (by decide +kernel) (by decide +kernel), ?_⟩
      refine ⟨_, rfl, t, _, 2, .ref u, rfl, rfl, .inl (.inl et), atI_nat (j := 2) rfl, u, _, 0, .str (S n), rfl, rfl, .inl (.inl eu), atI_nat (j := 0) rfl, ?_⟩
      refine ⟨_, rfl, t, _, 2, .ref u, rfl, rfl, .inl (.inl et), atI_nat (j := 2) rfl, u, _, 1, .int k, rfl, rfl, .inl (.inl eu), atI_nat (j := 1) rfl, ?_⟩
      refine ⟨Sx, x, dx, N, Tk, R, s0, n, false, k, rfl, hL2, hno, hnl, fun H3 k3 h3 => ?_⟩
      exact q H3 ((Keep.of_same s12).trans k3) h3
    | false =>
      refine iteF ?_
      delta tNext
      dsimp only
      have hlab2 : ∀ n, lab = some n → look s0.names n = none := by
        cases st with
        | equal n k => cases hq
        | words v => exact hok.2
        | at_ p => exact hok.2.2
        | one n r v => exact hok.2
        | set r v => exact hok.2
      refine seq_w [some (.ref x), some (.int num), some (.str (S l)), some (.ref p), some (.ref t), some (oStr lab), some (.str st.kind)] (fun H3 => Keep (Lx x N Tk R) H H3 ∧ LayAt (He.ga K "Layout") Sx H3 x dx N Tk R (goM s0 st) ∧ StmAt (fun L => L ∉ Sx) H3 t st) (fun H3 hP => ?_) (fun N1 key => ?_)
      · obtain ⟨k3, hL3, hst3⟩ := hP
        have enm : (goM s0 st).names = s0.names ∧ (goM s0 st).rows = s0.rows := by cases st <;> exact ⟨rfl, rfl⟩
        refine seq_w [some (.ref x), some (.int num), some (.str (S l)), some (.ref p), some (.ref t), some (oStr lab), some (.str st.kind)] (fun H4 => Keep (Lx x N Tk R) H H4 ∧ LayAt (He.ga K "Layout") Sx H4 x dx N Tk R { goM s0 st with names := (goM s0 st).names ++ labN lab (goM s0 st).place } ∧ StmAt (fun L => L ∉ Sx) H4 t st) (fun H4 hP4 => ?_) (fun N2 key2 => ?_)
        · obtain ⟨k4, hL4, hst4⟩ := hP4
          refine ⟨_, rfl, rfl, ?_⟩
          rw [kind_at]
          cases hz : isAt st with
          | true =>
            obtain ⟨pp, rfl⟩ : ∃ pp, st = .at_ pp := by
              cases st with
              | equal n k => cases hz
              | words v => cases hz
              | at_ p => exact ⟨p, rfl⟩
              | one n r v => cases hz
              | set r v => cases hz
            exact ⟨_, rfl, iteT (q H4 k4 hL4)⟩
          | false =>
            refine ⟨_, rfl, iteF ?_⟩
            refine ⟨_, rfl, x, dx, _, rfl, hL4.ins, lf_no _ _ _ _ (by decide +kernel) (by decide +kernel) (by decide +kernel) (by decide +kernel), ?_⟩
            refine ⟨_, rfl, _, rfl, Sx, x, dx, N, Tk, R, t, _, num, st, rfl, hL4, hst4, ?_, ?_, fun H5 k5 h5 => ?_⟩
            · cases st with
              | equal n k => cases hq
              | words v => exact hok.1
              | at_ p => cases hz
              | one n r v => exact hok.1
              | set r v => exact hok.1
            · show (goM s0 st).rows.length < 1000
              rw [enm.2]
              exact hrl
            · refine q H5 (k4.trans k5) ?_
              cases st with
              | equal n k => cases hq
              | words v => exact h5
              | at_ p => cases hz
              | one n r v => exact h5
              | set r v => exact h5
        · cases lab with
          | none =>
            refine ⟨_, rfl, rfl, _, rfl, iteF ?_⟩
            refine iteF (key2 H3 ⟨k3, ?_, hst3⟩)
            show LayAt (He.ga K "Layout") Sx H3 x dx N Tk R { goM s0 st with names := (goM s0 st).names ++ [] }
            rw [List.append_nil]
            exact hL3
          | some n =>
            refine ⟨_, rfl, rfl, _, rfl, iteT ?_⟩
            refine ⟨_, rfl, x, dx, _, rfl, hL3.ins, lf_no _ _ _ _ (by decide +kernel) (by decide +kernel) (by decide +kernel) (by decide +kernel), ?_⟩
            refine ⟨_, rfl, _, rfl, x, _, dx, _, _, rfl, hL3.ins, T.cl_Layout, T.na_Layout_own_place, lf_place _ _ _ _, ?_⟩
            refine ⟨Sx, x, dx, N, Tk, R, _, n, true, _, rfl, hL3, by rw [enm.1]; exact hlab2 n rfl, by rw [enm.1]; exact hnl, fun H4 k4 h4 => ?_⟩
            exact ⟨_, rfl, iteF (key2 H4 ⟨k3.trans k4, h4, hst3.keep hL3.notup (hL.wide k4) fun a ha => ha⟩)⟩
      · refine ⟨_, rfl, rfl, _, rfl, ?_⟩
        rw [kind_at]
        cases hz : isAt st with
        | true =>
          obtain ⟨pp, rfl⟩ : ∃ pp, st = .at_ pp := by
            cases st with
            | equal n k => cases hz
            | words v => cases hz
            | at_ p => exact ⟨p, rfl⟩
            | one n r v => cases hz
            | set r v => cases hz
          obtain ⟨h1, h2, h3⟩ := hok
          have etv : tv = .int pp := htold
          subst etv
          refine iteT ⟨_, rfl, t, _, 2, .int pp, rfl, rfl, .inl (.inl et), atI_nat (j := 2) rfl, _, rfl, x, _, dx, _, rfl, hL2.ins, T.cl_Layout, T.na_Layout_own_place, by rw [lf_len]; decide, ?_⟩
          rw [lf_put]
          generalize hH : upd _ x _ = H7
          have e : pp = ((pp.toNat : Nat) : Int) := by omega
          rw [e] at hH
          obtain ⟨k7, h7⟩ := hL2.goto (q := pp.toNat) (by omega) (by omega) hH
          exact key H7 ⟨(Keep.of_same s12).trans k7, h7, hst2.keep hL2.notup (hL.wide k7) fun a ha => ha⟩
        | false =>
          refine iteF (key H2 ⟨Keep.of_same s12, ?_, hst2⟩)
          cases st with
          | equal n k => cases hq
          | words v => exact hL2
          | at_ p => cases hz
          | one n r v => exact hL2
          | set r v => exact hL2
end
end K21
/-! ## K21Ins -/
set_option Elab.async false
set_option linter.all false
set_option maxRecDepth 100000
set_option maxHeartbeats 4000000
namespace K21
open PySem PySem.Spec PyProof.Rows L2
/-! instructions and their words -/
def InsF (n f : Str) (a b : Nat) (c d : Int) (regs : List Nat) (imm : List Int) : Prop := (n, f) ∈ opsT ∧ (f, (a, b, c, d)) ∈ shT ∧ regs.length = a ∧ (∀ r ∈ regs, r < 8) ∧ ((b = 0 ∧ imm = []) ∨ (0 < b ∧ ∃ k, imm = [k] ∧ c ≤ k ∧ k ≤ d))
def InsOk (n : Str) (regs : List Nat) (imm : List Int) : Prop := ∃ f a b c d, InsF n f a b c d regs imm
def regSum : List Nat → Int
  | [] => 0
  | [x] => (x : Int) * 2 ^ 8
  | [x, y] => (x : Int) * 2 ^ 8 + (y : Int) * 2 ^ 5
  | x :: y :: z :: _ => (x : Int) * 2 ^ 8 + (y : Int) * 2 ^ 5 + (z : Int) * 2 ^ 0
def immW (b : Nat) : List Int → Int
  | [] => 0
  | k :: _ => k % 2 ^ b
def InsW (n : Str) (regs : List Nat) (imm : List Int) (w : Int) : Prop := ∃ (f : Str) (a b : Nat) (c d : Int) (i : Nat), InsF n f a b c d regs imm ∧ opNames[i]? = some n ∧ w = ((i : Int) + 1) * 2 ^ 11 + regSum regs + immW b imm
theorem InsW.ok {n : Str} {regs : List Nat} {imm : List Int} {w : Int} (h : InsW n regs imm w) : InsOk n regs imm := by
  obtain ⟨f, a, b, c, d, i, h, _⟩ := h
  exact ⟨f, a, b, c, d, h⟩
def InsAt (H : Hp) (p : Addr) (n : Str) (regs : List Nat) (imm : List Int) : Prop := H p = some (.tup (.str n :: (regs.map (fun r : Nat => V.int (r : Int)) ++ imm.map V.int)))
theorem sh_small : ∀ q ∈ shT, q.2.1 ≤ 3 ∧ q.2.2.1 ≤ 8 ∧ (q.2.2.1 = 0 ∨ (-128 ≤ q.2.2.2.1 ∧ q.2.2.2.2 ≤ 255)) := by decide +kernel
theorem ix_small {n : Str} {i : Nat} (h : opNames[i]? = some n) : i < 26 := (List.getElem?_eq_some_iff.mp h).1
theorem ix_first {n z : Str} {i m : Nat} (h : opNames[i]? = some n) (hm : m < i) (hz : opNames[m]? = some z) : ¬ z = n := fun e => by
  subst e
  obtain ⟨h1, e1⟩ := List.getElem?_eq_some_iff.mp h
  obtain ⟨h2, e2⟩ := List.getElem?_eq_some_iff.mp hz
  rw [← e1] at e2
  exact (List.pairwise_iff_getElem.mp opNames_nd) m i h2 h1 hm e2
theorem op_ix (n : Str) (h : n ∈ opNames) : ∃ i : Nat, i < 26 ∧ opNames[i]? = some n := by
  obtain ⟨i, hi, e⟩ := List.mem_iff_getElem.mp h
  exact ⟨i, hi, by rw [← e, List.getElem?_eq_getElem]⟩
theorem cut_one (x : V) (A B : List V) : cutV (x :: (A ++ B)) (some 1) (some (1 + (A.length : Int))) = A := cut_regs x A B _ rfl
theorem walk_zipT {K : PySem.W.Frag} {a b : Addr} {xs ys : List V} {n : Nat} (hn : n = min xs.length ys.length) : Walk (RZ.ItzT K a b) n (fun H => SqT K H a xs ∧ SqT K H b ys) (YPair (fun i => xs[i]?) (fun i => ys[i]?)) := by
  subst hn
  refine ⟨fun i _ hi q => ?_, fun _ q => ⟨xs, ys, q.1, q.2, by omega⟩, fun i H v H' _ q y => ?_⟩
  · have h1 : i < xs.length := by omega
    have h2 : i < ys.length := by omega
    exact ⟨xs, ys, xs[i], ys[i], q.1, q.2, List.getElem?_eq_getElem h1, List.getElem?_eq_getElem h2⟩
  · obtain ⟨T, x, z, h1, h2, h3, h4, h5⟩ := y
    exact ⟨T, x, z, h1, h2, h3, h4 xs q.1, h5 ys q.2⟩
end K21
/-! ## WM -/
set_option Elab.async false
set_option linter.all false
set_option maxRecDepth 100000
set_option maxHeartbeats 4000000
namespace K21
open PySem PySem.Spec PyProof.Rows L2 C8
local macro_rules | `(tactic| walk_at "adv") => `(tactic| repeat (first | refine ⟨_, rfl, ?_⟩ | refine ⟨rfl, ?_⟩ | refine ⟨_, _, rfl, rfl, ?_⟩ | refine iteT ?_ | refine iteF ?_))

theorem flat_strs (l : List Str) : (l.map V.str).all flatV = true := by
  rw [List.all_eq_true]
  intro x hx
  obtain ⟨s, _, rfl⟩ := List.mem_map.mp hx
  rfl
theorem eqV_str (a b : Str) : eqV (.str a) (.str b) = decide (a = b) := by
  have := eqV_S (cl a) (cl b)
  rw [S_cl, S_cl] at this
  rw [this]
  refine decide_eq_decide.mpr ⟨fun e => ?_, fun e => by rw [e]⟩
  rw [← S_cl a, e, S_cl]
theorem all_true (n : Nat) : ((List.range n).map fun _ => V.bl true) = (List.replicate n true).map V.bl := by
  rw [List.map_const', List.map_replicate, List.length_range]
theorem all_rep (n : Nat) : (List.replicate n true).all id = true := by
  rw [List.all_replicate]
  simp
theorem sIx_one (n : Nat) (x : V) (A : List V) : ¬ (HT.sIx (x :: A).length 0 (some 1) = 0 ∧ HT.sIx (x :: A).length (x :: A).length (some (n : Int)) = (x :: A).length) := fun h => by
  have h1 := h.1
  rw [show (some (1 : Int)) = some ((1 : Nat) : Int) from rfl, HT.sIx_nat] at h1
  simp at h1
theorem regSum_step (regs : List Nat) (hl : regs.length ≤ 3) (i r : Nat) (pl : Int) (h : regs[i]? = some r) (hp : ([V.int 8, V.int 5, V.int 0] : List V)[i]? = some (.int pl)) : regSum (regs.take (i + 1)) = regSum (regs.take i) + (r : Int) * 2 ^ pl.toNat ∧ 0 ≤ pl ∧ pl ≤ 8 := by
  match regs, i, hl, h with
  | x :: t, 0, _, h =>
    have e := V.int.inj (Option.some.inj hp)
    subst e
    have e2 : x = r := by simpa using h
    subst e2
    refine ⟨?_, by decide, by decide⟩
    show regSum [x] = regSum [] + _
    simp [regSum]
  | x :: y :: t, 1, _, h =>
    have e := V.int.inj (Option.some.inj hp)
    subst e
    have e2 : y = r := by simpa using h
    subst e2
    refine ⟨?_, by decide, by decide⟩
    show regSum [x, y] = regSum [x] + _
    simp [regSum]
  | x :: y :: z :: t, 2, _, h =>
    have e := V.int.inj (Option.some.inj hp)
    subst e
    have e2 : z = r := by simpa using h
    subst e2
    refine ⟨?_, by decide, by decide⟩
    show regSum [x, y, z] = regSum [x, y] + _
    simp [regSum]
  | _ :: _ :: _ :: _ :: _, _, hl, _ => simp at hl
  | [x], 1, _, h => simp at h
  | [x, y], 2, _, h => simp at h
  | [], i, _, h => simp at h
  | [x], i + 2, _, h => simp at h
  | [x, y], i + 3, _, h => simp at h
  | [x, y, z], i + 3, _, h => simp at h
theorem regSum_small (regs : List Nat) (h : ∀ r ∈ regs, r < 8) (hl : regs.length ≤ 3) : 0 ≤ regSum regs ∧ regSum regs < 2048 := by
  match regs, hl with
  | [], _ => exact ⟨by decide, by decide⟩
  | [x], _ =>
    have := h x (by simp)
    simp only [regSum]; omega
  | [x, y], _ =>
    have := h x (by simp)
    have := h y (by simp)
    simp only [regSum]; omega
  | [x, y, z], _ =>
    have := h x (by simp)
    have := h y (by simp)
    have := h z (by simp)
    simp only [regSum]; omega
  | _ :: _ :: _ :: _ :: _, hl => simp at hl
def RegInv (H0 : Hp) (regs : List Nat) (i : Nat) (a0 a1 a2 a3 a4 : Option V) (m : Nat) (σ : L2.St) (H : Hp) : Prop := ∃ y1 y2, σ = [a0, a1, a2, a3, a4, some (.int (((i : Int) + 1) * 2 ^ 11 + regSum (regs.take m))), y1, y2] ∧ Same H0 H
theorem last_imm (x : V) (A : List V) (k : V) : atI (x :: (A ++ [k])) (-1) = some k := by
  have := atI_last (x :: A) k
  simpa using this

section
variable {P : Program} {w : World} {K : PySem.W.Frag} {mg : Str → Option Value} {base : Heap}
abbrev N_number_by_name : List Str := ["name"]
theorem sc_number_by_name : FnScope N_number_by_name ["name"] (defScope s_number_by_name) := ⟨rfl, rfl, rfl, by decide +kernel, rfl, by decide +kernel, by decide +kernel⟩
def sp_number_by_name : Sp := fun vs H Q _ => ∃ (n : Str) (i : Nat), vs = [.str n] ∧ opNames[i]? = some n ∧ ∀ H', Same H H' → Q (.int ((i : Int) + 1)) H'
theorem cal_number_by_name (T : Tx w K mg) : C8.Cal P w K mg base 1 "number_by_name" sp_number_by_name [] := by
  refine cal_of (st := s_number_by_name) (ps := ["name"]) T.d_number_by_name T.m_number_by_name sc_number_by_name (fun _ _ _ _ _ _ us hl => match us, hl with | [_], _ => rfl) (fun vs H Q E h => ?_) (fun cdv A outer s H vs Q E hr h => ?_)
  · obtain ⟨n, i, rfl, _⟩ := h
    rfl
  · obtain ⟨n, i, rfl, hi, q⟩ := h
    refine ⟨_, (pss_one (ps_ret (pe_op op_add (pe_bm PySem.F.plainAttrs_list PySem.F.slot_list_index PySem.F.type_list_index mt_index (pe_callTy (call_list_kd rfl) (by rfl) T.f_list (by decide +kernel) (pa_cons (pe_gc (by rfl) T.v_FORMS) pa_nil)) (pa_cons (pv 0) pa_nil)) pe_int))), ?_⟩
    obtain ⟨es, k, D, hk⟩ := forms_keys T
    refine ⟨_, es, k, opNames, rfl, D, hk, opNames_nd, by decide, fun p np => ?_⟩
    generalize hH : upd _ p _ = H1
    have s1 := new_same hH np
    have e1 : H1 p = some (.lst (opNames.map V.str)) := new_at hH
    refine ⟨.inl ⟨rfl, _, .inl (.inl e1)⟩, _, rfl, p, _, _, i, .str n, rfl, rfl, .inl (.inl e1), rfl, flat_strs _, by rw [List.getElem?_map, hi]; rfl, by rw [eqV_str]; exact decide_eq_true rfl, fun m z hm hz => ?_, ?_⟩
    · rw [List.getElem?_map] at hz
      obtain ⟨z1, h1, rfl⟩ := Option.map_eq_some_iff.mp hz
      rw [eqV_str]
      exact decide_eq_false (ix_first hi hm h1)
    · exact ⟨_, _, rfl, rfl, q _ s1⟩
abbrev N_is_instruction_value : List Str := ["value", "registers", "wide", "least", "most", "one"]
theorem sc_is_instruction_value : FnScope N_is_instruction_value ["value"] (defScope s_is_instruction_value) := ⟨rfl, rfl, rfl, by decide +kernel, rfl, by decide +kernel, by decide +kernel⟩
def sp_is_instruction_value : Sp := fun vs H Q _ => ∃ (p : Addr) (n : Str) (regs : List Nat) (imm : List Int), vs = [.ref p] ∧ InsAt H p n regs imm ∧ InsOk n regs imm ∧ ∀ H', Same H H' → Q (.bl true) H'
theorem cal_is_instruction_value (T : Tx w K mg) : C8.Cal P w K mg base 3 "is_instruction_value" sp_is_instruction_value [] := by
  have c_is_integer := cal_is_integer (P := P) (base := base) T
  have c_is_count := cal_is_count (P := P) (base := base) T
  refine cal_of (st := s_is_instruction_value) (ps := ["value"]) T.d_is_instruction_value T.m_is_instruction_value sc_is_instruction_value (fun _ _ _ _ _ _ us hl => match us, hl with | [_], _ => rfl) (fun vs H Q E h => ?_) (fun cdv A outer s H vs Q E hr h => ?_)
  · obtain ⟨p, n, regs, imm, rfl, _⟩ := h
    rfl
  · obtain ⟨p, n, regs, imm, rfl, hp, ⟨f, a, b, c, d, hf, hs, hr1, hr8, him⟩, q⟩ := h
    obtain ⟨es0, nn0, k_FORMS⟩ := T.k_FORMS
    refine ⟨_, (pss_cons (ps_if (PW.pt (pw_or (pt_not (pt_val (pe_callB call_isi (by rfl) T.f_isinstance (by decide +kernel) (pa_cons (pv 0) (pa_cons (pe_bltn (v := .ty "tuple") (by rfl) T.f_tuple (by decide +kernel) rfl) pa_nil))))) (pw_or (pt_cmpR op_eq (pe_callB call_len_seq (by rfl) T.f_len (by decide +kernel) (pa_cons (pv 0) pa_nil)) pe_int (nomark _)) (pw_or (pt_not (pt_val (pe_callB call_isi (by rfl) T.f_isinstance (by decide +kernel) (pa_cons (pe_ix ix_tup (pv 0) pe_int (fun _ _ => rfl)) (pa_cons (pe_bltn (v := .ty "str") (by rfl) T.f_str (by decide +kernel) rfl) pa_nil))))) (pw_or1 (pt_cmpR (op_notIn_kd k_FORMS) (pe_ix ix_tup (pv 0) pe_int (fun _ _ => rfl)) (pe_gc (by rfl) T.v_FORMS) (by rfl)))))))
        (pss_one (ps_ret pe_bl))
        pss_nil)
      (pss_cons (ps_asg (pe_ix ix_kdict (pe_gc (by rfl) T.v_SHAPES) (pe_ix ix_kdict (pe_gc (by rfl) T.v_FORMS) (pe_ix ix_tup (pv 0) pe_int (fun _ _ => rfl)) (fun _ _ => rfl)) (fun _ _ => rfl)) (pg_tup rfl (pgs_cons (pg_name (i := 1) sc_is_instruction_value.nd rfl (Or.inl rfl)) (pgs_cons (pg_name (i := 2) sc_is_instruction_value.nd rfl (Or.inl rfl)) (pgs_cons (pg_name (i := 3) sc_is_instruction_value.nd rfl (Or.inl rfl)) (pgs_cons (pg_name (i := 4) sc_is_instruction_value.nd rfl (Or.inl rfl)) pgs_nil))))))
      (pss_cons (ps_if (pt_cmpR op_ne (pe_callB call_len_seq (by rfl) T.f_len (by decide +kernel) (pa_cons (pv 0) pa_nil)) (pe_op op_add (pe_op op_add pe_int (pv 1)) (pe_callTy call_int1 (by rfl) T.f_int (by decide +kernel) (pa_cons (pe_cmpR op_gt (pv 2) pe_int (nomark _)) pa_nil))) (nomark _))
        (pss_one (ps_ret pe_bl))
        pss_nil)
      (pss_cons (ps_if (pt_not (pt_val (pe_callB (cr_all rfl) (by rfl) T.f_all (by decide +kernel) (pa_cons (pe_lc (own := [("one", 5)]) (g := gName 5) (tt := tYes) rfl sc_is_instruction_value.nd (pi_tup (pe_slice sl_tupA (pv 0) (po_some pe_int) (po_some (pe_op op_add pe_int (pv 1))))) (blkOk_by (own := [("one", 5)]) (N := N_is_instruction_value) (sc := defScope s_is_instruction_value) (by decide +kernel)) (fun _ _ _ _ _ => pg_name (i := 5) sc_is_instruction_value.nd rfl (Or.inl rfl)) (fun _ _ _ _ _ => pts_nil) (fun _ _ _ _ _ => (pe_and (pe_c c_is_count hr (by decide) (by rfl) (pa_cons (pv 5) pa_nil)) (pe_one (pe_cmpR op_le (pv 5) (pe_gc (by rfl) T.v_MOST_REGISTER) (nomark _)))))) pa_nil))))
        (pss_one (ps_ret pe_bl))
        pss_nil)
      (pss_one (ps_ret (pe_or (pe_cmpR op_eq (pv 2) pe_int (nomark _)) (pe_one (pe_and (pe_c c_is_integer hr (by decide) (by rfl) (pa_cons (pe_ix ix_tup (pv 0) (pe_un un_neg pe_int) (fun _ _ => rfl)) pa_nil)) (pe_one (pe_chain op_le op_le (pv 3) (pe_ix ix_tup (pv 0) (pe_un un_neg pe_int) (fun _ _ => rfl)) (pv 4)))))))))))), ?_⟩
    obtain ⟨hkf, u0, hns⟩ := form_get T hf
    obtain ⟨t, hks, ht⟩ := shape_get T hs
    have hb : (if decide ((0 : Int) < (b : Int)) = true then (1 : Int) else 0) = (imm.length : Int) := by
      rcases him with ⟨rfl, rfl⟩ | ⟨h1, k, rfl, _, _⟩
      · rfl
      · rw [if_pos (decide_eq_true (by omega))]; rfl
    have hT : SqT K H p (.str n :: (regs.map (fun r : Nat => V.int (r : Int)) ++ imm.map V.int)) := .inl (.inl hp)
    have hlen : (V.str n :: (regs.map (fun r : Nat => V.int (r : Int)) ++ imm.map V.int)).length = 1 + a + imm.length := by
      simp [hr1]
      omega
    have hal : (a : Int) = ((regs.map (fun r : Nat => V.int (r : Int))).length : Int) := by rw [List.length_map, hr1]
    refine ⟨_, rfl, _, _, _, _, _, rfl, .ty _, .base (.tup hp), kit_ty (a := "tuple") (b := "tuple") (r := true) (by decide +kernel), _, rfl, iteF ?_⟩
    refine ⟨_, rfl, p, _, rfl, .inr hT, rfl, _, rfl, iteDF (by rw [hlen]; intro z; have := V.int.inj z; omega) ?_⟩
    refine ⟨_, rfl, p, _, 0, .str n, rfl, rfl, hT, atI_nat (j := 0) rfl, _, _, _, _, _, rfl, .ty _, .base (.str n), kit_ty (a := "str") (b := "str") (r := true) (by decide +kernel), _, rfl, iteF ?_⟩
    refine ⟨_, rfl, p, _, 0, .str n, rfl, rfl, hT, atI_nat (j := 0) rfl, n, _, rfl, rfl, hns, _, rfl, iteF ?_⟩
    refine ⟨_, rfl, p, _, 0, .str n, rfl, rfl, hT, atI_nat (j := 0) rfl, _, n, _, rfl, rfl, hkf, _, f, _, rfl, rfl, hks, t, _, rfl, ht _, rfl, _, _, rfl, _, _, rfl, _, _, rfl, _, _, rfl, rfl, ?_⟩
    refine ⟨_, rfl, p, _, rfl, .inr hT, _, rfl, _, _, rfl, rfl, _, rfl, _, _, rfl, rfl, .inr ⟨_, rfl, _, _, rfl, rfl, rfl, _, rfl, ?_⟩⟩
    rw [hb, hlen]
    refine iteNF (by congr 1) ?_
    refine ⟨_, rfl, _, rfl, _, rfl, _, _, rfl, rfl, _, rfl, p, _, rfl, hT, fun h => absurd h (by
      rw [show (1 : Int) + (a : Int) = ((1 + a : Nat) : Int) by omega]
      exact sIx_one _ _ _), fun _ u nu => ?_⟩
    rw [cut_regs _ _ _ _ hal]
    generalize hH : upd _ u _ = H2
    have s2 := new_same hH nu
    have e2 := new_at hH
    refine ⟨u, rfl, ⟨_, .inl (.inl e2)⟩, fun D hD => ?_⟩
    refine lc_vals (walk_tup (xs := regs.map fun r : Nat => V.int (r : Int))) hD (by rw [List.length_map, hr1]; have := (sh_small _ hs).1; dsimp only at this; omega) (fun _ => .bl true) (fun H1 s1 => .inl (.inl (s1 _ _ e2))) (fun i x H1 H2 C Cf hi s1 y k => ?_) (fun H3 s3 e3 => ?_)
    · obtain ⟨rfl, hx⟩ := y
      rw [List.getElem?_map] at hx
      obtain ⟨r, hr, rfl⟩ := Option.map_eq_some_iff.mp hx
      have h8 := hr8 r (List.mem_of_getElem? hr)
      refine ⟨rfl, yes_in ⟨_, rfl, _, rfl, _, rfl, iteDT (by omega) ⟨_, rfl, _, _, rfl, rfl, ?_⟩⟩⟩
      dsimp only
      rw [decide_eq_true (show (r : Int) ≤ 7 by omega)]
      exact k _ (Same.refl _)
    · rw [all_true] at e3
      refine ⟨D, _, rfl, .inl (.inl e3), _, rfl, ?_⟩
      rw [all_rep]
      refine iteF ?_
      have sA := s2.trans s3
      refine ⟨_, rfl, rfl, ?_⟩
      rcases him with ⟨rfl, rfl⟩ | ⟨h1, k, rfl, h2, h3⟩
      · refine ⟨_, rfl, iteDT rfl (q _ sA)⟩
      · refine ⟨_, rfl, iteDF (by intro z; have := V.int.inj z; omega) ?_⟩
        refine ⟨_, rfl, _, rfl, p, _, -1, .int k, rfl, rfl, .inl (.inl (sA _ _ hp)), last_imm _ _ _, k, rfl, _, rfl, iteT ?_⟩
        refine ⟨_, rfl, _, rfl, _, rfl, p, _, -1, .int k, rfl, rfl, .inl (.inl (sA _ _ hp)), last_imm _ _ _, _, _, rfl, rfl, _, rfl, iteDT h2 ⟨_, rfl, _, _, rfl, rfl, ?_⟩⟩
        dsimp only
        rw [decide_eq_true h3]
        exact q _ sA
abbrev N_want_instruction : List Str := ["value"]
theorem sc_want_instruction : FnScope N_want_instruction ["value"] (defScope s_want_instruction) := ⟨rfl, rfl, rfl, by decide +kernel, rfl, by decide +kernel, by decide +kernel⟩
def sp_want_instruction : Sp := fun vs H Q _ => ∃ (p : Addr) (n : Str) (regs : List Nat) (imm : List Int), vs = [.ref p] ∧ InsAt H p n regs imm ∧ InsOk n regs imm ∧ ∀ H', Same H H' → Q (.ref p) H'
theorem cal_want_instruction (T : Tx w K mg) : C8.Cal P w K mg base 4 "want_instruction" sp_want_instruction [] := by
  have c_is_instruction_value := cal_is_instruction_value (P := P) (base := base) T
  refine cal_of (st := s_want_instruction) (ps := ["value"]) T.d_want_instruction T.m_want_instruction sc_want_instruction (fun _ _ _ _ _ _ us hl => match us, hl with | [_], _ => rfl) (fun vs H Q E h => ?_) (fun cdv A outer s H vs Q E hr h => ?_)
  · obtain ⟨p, n, regs, imm, rfl, _⟩ := h
    rfl
  · obtain ⟨p, n, regs, imm, rfl, hp, hok, q⟩ := h
    refine ⟨_, (pss_cons (ps_if (pt_not (pt_val (pe_c c_is_instruction_value hr (by decide) (by rfl) (pa_cons (pv 0) pa_nil))))
        (pss_one ps_never)
        pss_nil)
      (pss_one (ps_ret (pv 0)))), ?_⟩
    refine ⟨_, rfl, p, n, regs, imm, rfl, hp, hok, fun H1 s1 => ⟨_, rfl, iteF ⟨_, rfl, q _ s1⟩⟩⟩
abbrev N_is_instruction : List Str := ["value"]
theorem sc_is_instruction : FnScope N_is_instruction ["value"] (defScope s_is_instruction) := ⟨rfl, rfl, rfl, by decide +kernel, rfl, by decide +kernel, by decide +kernel⟩
def sp_is_instruction : Sp := fun vs H Q _ => ∃ (p : Addr) (n : Str) (regs : List Nat) (imm : List Int), vs = [.ref p] ∧ InsAt H p n regs imm ∧ InsOk n regs imm ∧ ∀ H', Same H H' → Q (.bl true) H'
theorem cal_is_instruction (T : Tx w K mg) : C8.Cal P w K mg base 4 "is_instruction" sp_is_instruction [] := by
  have c_is_instruction_value := cal_is_instruction_value (P := P) (base := base) T
  refine cal_of (st := s_is_instruction) (ps := ["value"]) T.d_is_instruction T.m_is_instruction sc_is_instruction (fun _ _ _ _ _ _ us hl => match us, hl with | [_], _ => rfl) (fun vs H Q E h => ?_) (fun cdv A outer s H vs Q E hr h => ?_)
  · obtain ⟨p, n, regs, imm, rfl, _⟩ := h
    rfl
  · obtain ⟨p, n, regs, imm, rfl, hp, hok, q⟩ := h
    refine ⟨_, (pss_one (ps_ret (pe_c c_is_instruction_value hr (by decide) (by rfl) (pa_cons (pv 0) pa_nil)))), ?_⟩
    refine ⟨_, rfl, p, n, regs, imm, rfl, hp, hok, fun H1 s1 => q _ s1⟩
abbrev N_instruction_as_word : List Str := ["instruction", "registers", "wide", "least", "most", "found", "one", "place"]
theorem sc_instruction_as_word : FnScope N_instruction_as_word ["instruction"] (defScope s_instruction_as_word) := ⟨rfl, rfl, rfl, by decide +kernel, rfl, by decide +kernel, by decide +kernel⟩
def sp_instruction_as_word : Sp := fun vs H Q _ => ∃ (p : Addr) (n : Str) (regs : List Nat) (imm : List Int) (wd : Int), vs = [.ref p] ∧ InsAt H p n regs imm ∧ InsW n regs imm wd ∧ ∀ H', Same H H' → Q (.int wd) H'
theorem cal_instruction_as_word (T : Tx w K mg) : C8.Cal P w K mg base 2 "instruction_as_word" sp_instruction_as_word [] := by
  have c_number_by_name := cal_number_by_name (P := P) (base := base) T
  refine cal_of (st := s_instruction_as_word) (ps := ["instruction"]) T.d_instruction_as_word T.m_instruction_as_word sc_instruction_as_word (fun _ _ _ _ _ _ us hl => match us, hl with | [_], _ => rfl) (fun vs H Q E h => ?_) (fun cdv A outer s H vs Q E hr h => ?_)
  · obtain ⟨p, n, regs, imm, wd, rfl, _⟩ := h
    rfl
  · obtain ⟨p, n, regs, imm, wd, rfl, hp, ⟨f, a, b, c, d, i, ⟨hf, hs, hr1, hr8, him⟩, hi, rfl⟩, q⟩ := h
    refine ⟨_, (pss_cons (ps_asg (pe_ix ix_kdict (pe_gc (by rfl) T.v_SHAPES) (pe_ix ix_kdict (pe_gc (by rfl) T.v_FORMS) (pe_ix ix_tup (pv 0) pe_int (fun _ _ => rfl)) (fun _ _ => rfl)) (fun _ _ => rfl)) (pg_tup rfl (pgs_cons (pg_name (i := 1) sc_instruction_as_word.nd rfl (Or.inl rfl)) (pgs_cons (pg_name (i := 2) sc_instruction_as_word.nd rfl (Or.inl rfl)) (pgs_cons (pg_name (i := 3) sc_instruction_as_word.nd rfl (Or.inl rfl)) (pgs_cons (pg_name (i := 4) sc_instruction_as_word.nd rfl (Or.inl rfl)) pgs_nil))))))
      (pss_cons (ps_set (i := 5) sc_instruction_as_word.nd rfl (Or.inl rfl) (pe_op op_shl (pe_c c_number_by_name hr (by decide) (by rfl) (pa_cons (pe_ix ix_tup (pv 0) pe_int (fun _ _ => rfl)) pa_nil)) (pe_gc (by rfl) T.v_OPERATION_BIT)))
      (pss_cons (ps_for PassesOwn.never rfl (RZ.pi_zipA (by rfl) T.f_zip (pa_cons (pe_slice sl_tupA (pv 0) (po_some pe_int) (po_some (pe_op op_add pe_int (pv 1)))) (pa_cons (pe_gc (by rfl) T.v_PLACES) pa_nil))) (pg_tup rfl (pgs_cons (pg_name (i := 6) sc_instruction_as_word.nd rfl (Or.inl rfl)) (pgs_cons (pg_name (i := 7) sc_instruction_as_word.nd rfl (Or.inl rfl)) pgs_nil)))
        (pss_one (ps_set (i := 5) sc_instruction_as_word.nd rfl (Or.inl rfl) (pe_op op_add (pv 5) (pe_op op_shl (pv 6) (pv 7))))))
      (pss_one (ps_ret (pe_ifExp (pt_cmpR op_gt (pv 2) pe_int (nomark _)) (pe_op op_add (pv 5) (pe_op op_mod (pe_ix ix_tup (pv 0) (pe_un un_neg pe_int) (fun _ _ => rfl)) (pe_op op_shl pe_int (pv 2)))) (pv 5))))))), ?_⟩
    obtain ⟨hkf, u0, hns⟩ := form_get T hf
    obtain ⟨t, hks, ht⟩ := shape_get T hs
    have ha3 : a ≤ 3 := (sh_small _ hs).1
    have hb8 : b ≤ 8 := (sh_small _ hs).2.1
    have hi26 := ix_small hi
    have hT : SqT K H p (.str n :: (regs.map (fun r : Nat => V.int (r : Int)) ++ imm.map V.int)) := .inl (.inl hp)
    have hal : (a : Int) = ((regs.map (fun r : Nat => V.int (r : Int))).length : Int) := by rw [List.length_map, hr1]
    refine ⟨_, rfl, p, _, 0, .str n, rfl, rfl, hT, atI_nat (j := 0) rfl, _, n, _, rfl, rfl, hkf, _, f, _, rfl, rfl, hks, t, _, rfl, ht _, rfl, _, _, rfl, _, _, rfl, _, _, rfl, _, _, rfl, rfl, ?_⟩
    refine ⟨_, rfl, p, _, 0, .str n, rfl, rfl, hT, atI_nat (j := 0) rfl, n, i, rfl, hi, fun H1 s1 => ?_⟩
    refine ⟨_, _, rfl, rfl, ⟨by decide, by decide, by omega⟩, ?_⟩
    have e0 : ((i : Int) + 1) * 2 ^ (11 : Int).toNat = ((i : Int) + 1) * 2 ^ 11 + regSum (regs.take 0) := by
      rw [show regSum (regs.take 0) = 0 from rfl, Int.add_zero]
      rfl
    dsimp only
    rw [e0]
    refine ⟨_, rfl, _, rfl, _, rfl, _, _, rfl, rfl, _, rfl, p, _, rfl, .inl (.inl (s1 _ _ hp)), fun h => absurd h (by
      rw [show (1 : Int) + (a : Int) = ((1 + a : Nat) : Int) by omega]
      exact sIx_one _ _ _), fun _ u nu => ?_⟩
    rw [cut_regs _ _ _ _ hal]
    generalize hH : upd _ u _ = H2
    have s2 := new_same hH nu
    have e2 : H2 u = some (.tup (regs.map fun r : Nat => V.int (r : Int))) := new_at hH
    refine ⟨u, _, _, _, rfl, .inr ⟨.inl (.inl e2), T.t_PLACES _, ?_⟩⟩
    refine for_it (walk_zipT (xs := regs.map fun r : Nat => V.int (r : Int)) (ys := [.int 8, .int 5, .int 0]) (n := regs.length) (by rw [List.length_map]; show _ = min _ 3; omega)) (RegInv H2 regs i (some (.ref p)) (some (.int a)) (some (.int b)) (some (.int c)) (some (.int d))) ⟨none, none, rfl, Same.refl _⟩ (fun m σ H3 _ h => ?_) (fun m x σ H3 H4 hm h y => ?_) (fun σ H3 h => ?_)
    · obtain ⟨y1, y2, _, s3⟩ := h
      exact ⟨.inl (.inl (s3 _ _ e2)), T.t_PLACES _⟩
    · obtain ⟨y1, y2, rfl, s3⟩ := h
      obtain ⟨tt, x1, x2, rfl, nt, rfl, h1, h2⟩ := y
      have h1' : (regs.map fun r : Nat => V.int (r : Int))[m]? = some x1 := h1
      rw [List.getElem?_map] at h1'
      obtain ⟨r, hr, rfl⟩ := Option.map_eq_some_iff.mp h1'
      obtain ⟨pl, rfl⟩ : ∃ pl, x2 = .int pl := by
        have h3 : m < 3 := by omega
        match m, h3, h2 with
        | 0, _, h2 => exact ⟨8, (Option.some.inj h2).symm⟩
        | 1, _, h2 => exact ⟨5, (Option.some.inj h2).symm⟩
        | 2, _, h2 => exact ⟨0, (Option.some.inj h2).symm⟩
      obtain ⟨e5, h5, h6⟩ := regSum_step regs (by omega) m r pl hr h2
      have hr7 := hr8 r (List.mem_of_getElem? hr)
      refine ⟨tt, _, rfl, .inl (.inl upd_same), rfl, _, _, rfl, _, _, rfl, rfl, ?_⟩
      refine ⟨_, rfl, _, rfl, _, rfl, _, _, rfl, rfl, ⟨h5, by omega, by omega⟩, _, _, rfl, rfl, ?_⟩
      refine ⟨some (.int (r : Int)), some (.int pl), ?_, s3.trans (same_new nt)⟩
      rw [e5, ← Int.add_assoc]
      rfl
    · obtain ⟨y1, y2, rfl, s3⟩ := h
      rw [List.take_length]
      have sA := s1.trans (s2.trans s3)
      have e6 := sA _ _ hp
      rcases him with ⟨rfl, rfl⟩ | ⟨h1, k, rfl, h2, h3⟩
      · refine ⟨_, rfl, _, _, rfl, rfl, _, rfl, iteDF (by decide) ⟨_, rfl, ?_⟩⟩
        have := q _ sA
        rw [show immW 0 [] = 0 from rfl, Int.add_zero] at this
        exact this
      · refine ⟨_, rfl, _, _, rfl, rfl, _, rfl, iteDT (by omega) ?_⟩
        refine ⟨_, rfl, _, rfl, _, rfl, p, _, -1, .int k, rfl, rfl, .inl (.inl e6), last_imm _ _ _, _, rfl, _, _, rfl, rfl, ⟨by omega, by omega, by decide⟩, ?_⟩
        have e7 : (1 : Int) * 2 ^ (b : Int).toNat = 2 ^ b := by rw [Int.toNat_natCast, Int.one_mul]
        dsimp only
        rw [e7]
        refine ⟨_, _, rfl, rfl, Int.pow_pos (by decide), _, _, rfl, rfl, ?_⟩
        exact q _ sA
abbrev N_encoded : List Str := ["instruction"]
theorem sc_encoded : FnScope N_encoded ["instruction"] (defScope s_encoded) := ⟨rfl, rfl, rfl, by decide +kernel, rfl, by decide +kernel, by decide +kernel⟩
def sp_encoded : Sp := fun vs H Q _ => ∃ (p : Addr) (n : Str) (regs : List Nat) (imm : List Int) (wd : Int), vs = [.ref p] ∧ InsAt H p n regs imm ∧ InsW n regs imm wd ∧ ∀ H', Same H H' → Q (.int wd) H'
theorem cal_encoded (T : Tx w K mg) : C8.Cal P w K mg base 5 "encoded" sp_encoded [] := by
  have c_instruction_as_word := cal_instruction_as_word (P := P) (base := base) T
  have c_want_instruction := cal_want_instruction (P := P) (base := base) T
  refine cal_of (st := s_encoded) (ps := ["instruction"]) T.d_encoded T.m_encoded sc_encoded (fun _ _ _ _ _ _ us hl => match us, hl with | [_], _ => rfl) (fun vs H Q E h => ?_) (fun cdv A outer s H vs Q E hr h => ?_)
  · obtain ⟨p, n, regs, imm, wd, rfl, _⟩ := h
    rfl
  · obtain ⟨p, n, regs, imm, wd, rfl, hp, hw, q⟩ := h
    refine ⟨_, (pss_one (ps_ret (pe_c c_instruction_as_word hr (by decide) (by rfl) (pa_cons (pe_c c_want_instruction hr (by decide) (by rfl) (pa_cons (pv 0) pa_nil)) pa_nil)))), ?_⟩
    refine ⟨_, rfl, p, n, regs, imm, rfl, hp, hw.ok, fun H1 s1 => ?_⟩
    exact ⟨p, n, regs, imm, wd, rfl, s1 _ _ hp, hw, fun H2 s2 => q _ (s1.trans s2)⟩
end
end K21
/-! ## WN -/
set_option Elab.async false
set_option linter.all false
set_option maxRecDepth 100000
set_option maxHeartbeats 4000000
namespace K21
open PySem PySem.Spec PyProof.Rows L2 C8
local macro_rules | `(tactic| walk_at "adv") => `(tactic| repeat (first | refine ⟨_, rfl, ?_⟩ | refine ⟨rfl, ?_⟩ | refine ⟨_, _, rfl, rfl, ?_⟩ | refine iteT ?_ | refine iteF ?_))

def wordM (ns : List Nm) (v : Val) : Option Int := match worthM ns v with
  | none => none
  | some k => if -32768 ≤ k ∧ k < 65536 then some (k % 65536) else none
theorem wordM_inv {ns : List Nm} {v : Val} {k : Int} (h : wordM ns v = some k) : ∃ j, worthM ns v = some j ∧ -32768 ≤ j ∧ j < 65536 ∧ k = j % 65536 := by
  unfold wordM at h
  cases e : worthM ns v with
  | none => rw [e] at h; cases h
  | some j =>
    rw [e] at h
    have h2 : (if -32768 ≤ j ∧ j < 65536 then some (j % 65536) else none) = some k := h
    by_cases hj : -32768 ≤ j ∧ j < 65536
    · rw [if_pos hj] at h2
      exact ⟨j, rfl, hj.1, hj.2, (Option.some.inj h2).symm⟩
    · rw [if_neg hj] at h2
      cases h2
theorem seq_v {a b : TS} {D : Ends} {σ : L2.St} {H : Hp} (Pr : L2.St → Hp → Prop) (key : ∀ σ' H3, Pr σ' H3 → b D σ' H3) (h : ∀ N : L2.St → Hp → Prop, (∀ σ' H3, Pr σ' H3 → N σ' H3) → a { D with nx := N } σ H) : tSeq a b D σ H := h _ key
def branches : List Str := ["bz", "bnz", "jal"]
def labM (ns : List Nm) : List Val → Bool
  | (some m, _) :: _ => match look ns m with
    | some (b, _) => b
    | none => false
  | _ => false
def immM (ns : List Nm) (place : Int) (n : Str) (vs : List Val) (ks : List Int) : List Int := if n ∈ branches ∧ labM ns vs = true then ks.map (fun k => k - place) else ks
def RowW (ns : List Nm) (place : Int) : Stm → List Int → Prop
  | .words vs, ws => vs.map (wordM ns) = ws.map some
  | .one n rs vs, ws => ∃ ks w, vs.map (worthM ns) = ks.map some ∧ vs.length ≤ 1 ∧ (S n ∈ branches → vs ≠ []) ∧ InsW (S n) rs (immM ns place (S n) vs ks) w ∧ ws = [w]
  | .set r v, ws => ∃ k w1 w2, wordM ns v = some k ∧ InsW "lim" [r] [k % 256] w1 ∧ InsW "lhi" [r] [k / 256] w2 ∧ ws = [w1, w2]
  | .equal _ _, ws => False
  | .at_ _, ws => False
def isOne : Stm → Bool
  | .one _ _ _ => true
  | _ => false
theorem kind_ne2 : ("words" : Str) ≠ "one" ∧ ("equal" : Str) ≠ "one" ∧ ("set" : Str) ≠ "one" ∧ ("at" : Str) ≠ "one" := by decide +kernel
theorem kind_one (st : Stm) : decide (V.str st.kind = V.str "one") = isOne st := by
  obtain ⟨h1, h2, h3, h4⟩ := kind_ne2
  have z : ∀ a b : Str, a ≠ b → decide (V.str a = V.str b) = false := fun a b h => decide_eq_false fun e => h (V.str.inj e)
  cases st with
  | words v => exact z _ _ h1
  | equal n k => exact z _ _ h2
  | at_ p => exact z _ _ h4
  | one n r v => exact decide_eq_true rfl
  | set r v => exact z _ _ h3
theorem inV_branch (n : Str) : inV (.str n) [.str "bz", .str "bnz", .str "jal"] = decide (n ∈ branches) := by
  show (eqV _ _ || (eqV _ _ || (eqV _ _ || false))) = _
  rw [eqV_str, eqV_str, eqV_str]
  unfold branches
  by_cases h1 : n = "bz"
  · subst h1; rfl
  by_cases h2 : n = "bnz"
  · subst h2; rfl
  by_cases h3 : n = "jal"
  · subst h3; rfl
  rw [decide_eq_false (fun e => h1 e.symm), decide_eq_false (fun e => h2 e.symm), decide_eq_false (fun e => h3 e.symm)]
  exact (decide_eq_false (by simp [h1, h2, h3])).symm

section
variable {P : Program} {w : World} {K : PySem.W.Frag} {mg : Str → Option Value} {base : Heap}
abbrev N_word_worth : List Str := ["value", "names", "worth"]
theorem sc_word_worth : FnScope N_word_worth ["value", "names"] (defScope s_word_worth) := ⟨rfl, rfl, rfl, by decide +kernel, rfl, by decide +kernel, by decide +kernel⟩
def sp_word_worth : Sp := fun vs H Q _ => ∃ (a N : Addr) (v : Val) (ns : List Nm) (k : Int), vs = [.ref a, .ref N] ∧ ValAt H a v ∧ NamesAt H N ns ∧ wordM ns v = some k ∧ Q (.int k) H
theorem cal_word_worth (T : Tx w K mg) : C8.Cal P w K mg base 2 "word_worth" sp_word_worth [] := by
  have c_worth_in := cal_worth_in (P := P) (base := base) T
  refine cal_of (st := s_word_worth) (ps := ["value", "names"]) T.d_word_worth T.m_word_worth sc_word_worth (fun _ _ _ _ _ _ us hl => match us, hl with | [_, _], _ => rfl) (fun vs H Q E h => ?_) (fun cdv A outer s H vs Q E hr h => ?_)
  · obtain ⟨a, N, v, ns, k, rfl, _⟩ := h
    rfl
  · obtain ⟨a, N, v, ns, k, rfl, hv, hN, hk, q⟩ := h
    refine ⟨_, (pss_cons (ps_set (i := 2) sc_word_worth.nd rfl (Or.inl rfl) (pe_c c_worth_in hr (by decide) (by rfl) (pa_cons (pv 0) (pa_cons (pv 1) pa_nil))))
      (pss_one (ps_ret (pe_ifExp (PW.pt (pw_or (pt_cmpR op_isN (pv 2) pe_non (nomark _)) (pw_or1 (pt_not (pt_chain op_le op_lt (pe_gc (by rfl) T.v_LEAST_WORTH) (pv 2) (pe_gc (by rfl) T.v_END_WORTH)))))) pe_non (pe_op op_mod (pv 2) (pe_gc (by rfl) T.v_END_WORTH)))))), ?_⟩
    obtain ⟨j, h1, h2, h3, rfl⟩ := wordM_inv hk
    refine ⟨_, rfl, _, rfl, a, N, v, ns, j, rfl, hv, hN, h1, ?_⟩
    refine ⟨_, rfl, rfl, _, rfl, iteF ?_⟩
    refine ⟨_, rfl, _, _, rfl, rfl, _, rfl, iteDT h2 ⟨_, _, rfl, rfl, _, rfl, iteNF h3 ?_⟩⟩
    exact ⟨_, rfl, _, _, rfl, rfl, by show (0 : Int) < 65536; decide, q⟩
abbrev N_told_word : List Str := ["place", "told", "names", "name", "registers", "values", "numbers", "instruction", "value", "number"]
theorem sc_told_word : FnScope N_told_word ["place", "told", "names"] (defScope s_told_word) := ⟨rfl, rfl, rfl, by decide +kernel, rfl, by decide +kernel, by decide +kernel⟩
def sp_told_word : Sp := fun vs H Q _ => ∃ (t R L N : Addr) (n : List Nat) (rs : List Nat) (vals : List Val) (ns : List Nm) (place : Int) (ks : List Int) (wd : Int), vs = [.int place, .ref t, .ref N] ∧ H t = some (.tup [.str (S n), .ref R, .ref L]) ∧
  H R = some (.lst (rs.map fun r : Nat => V.int (r : Int))) ∧ (∃ ys, H L = some (.lst ys) ∧ Each ValR H ys vals) ∧ NamesAt H N ns ∧ vals.map (worthM ns) = ks.map some ∧ vals.length ≤ 1 ∧ (S n ∈ branches → vals ≠ []) ∧ InsW (S n) rs (immM ns place (S n) vals ks) wd ∧ ∀ H', Same H H' → Q (.int wd) H'
theorem cal_told_word (T : Tx w K mg) : C8.Cal P w K mg base 6 "told_word" sp_told_word [] := by
  have c_worth_in := cal_worth_in (P := P) (base := base) T
  have c_is_instruction := cal_is_instruction (P := P) (base := base) T
  have c_encoded := cal_encoded (P := P) (base := base) T
  refine cal_of (st := s_told_word) (ps := ["place", "told", "names"]) T.d_told_word T.m_told_word sc_told_word (fun _ _ _ _ _ _ us hl => match us, hl with | [_, _, _], _ => rfl) (fun vs H Q E h => ?_) (fun cdv A outer s H vs Q E hr h => ?_)
  · obtain ⟨t, R, L, N, n, rs, vals, ns, place, ks, wd, rfl, _⟩ := h
    rfl
  · obtain ⟨t, R, L, N, n, rs, vals, ns, place, ks, wd, rfl, et, eR, ⟨ys, eL, hE⟩, hN, hks, hv1, hbr, hw, q⟩ := h
    refine ⟨_, (pss_cons (ps_asg (pv 1) (pg_tup rfl (pgs_cons (pg_name (i := 3) sc_told_word.nd rfl (Or.inl rfl)) (pgs_cons (pg_name (i := 4) sc_told_word.nd rfl (Or.inl rfl)) (pgs_cons (pg_name (i := 5) sc_told_word.nd rfl (Or.inl rfl)) pgs_nil)))))
      (pss_cons (ps_setLc (i := 6) (own := [("value", 8)]) (g := gName 8) (tt := tYes) rfl sc_told_word.nd rfl rfl (sw_true rfl rfl rfl (by decide +kernel)) (pi_list (pv 5)) (blkOk_by (own := [("value", 8)]) (N := N_told_word) (sc := defScope s_told_word) (by decide +kernel)) (fun _ _ _ _ _ => pg_name (i := 8) sc_told_word.nd rfl (Or.inl rfl)) (fun _ _ _ _ _ => pts_nil) (fun _ _ _ _ _ => (pe_c c_worth_in hr (by decide) (by rfl) (pa_cons (pv 8) (pa_cons (pv 2) pa_nil)))))
      (pss_cons (ps_if (pt_val (pe_callB (cr_any rfl) (by rfl) T.f_any (by decide +kernel) (pa_cons (pe_lc (own := [("number", 9)]) (g := gName 9) (tt := tYes) rfl sc_told_word.nd (pi_list (pv 6)) (blkOk_by (own := [("number", 9)]) (N := N_told_word) (sc := defScope s_told_word) (by decide +kernel)) (fun _ _ _ _ _ => pg_name (i := 9) sc_told_word.nd rfl (Or.inl rfl)) (fun _ _ _ _ _ => pts_nil) (fun _ _ _ _ _ => (pe_cmpR op_isN (pv 9) pe_non (nomark _)))) pa_nil)))
        (pss_one (ps_ret pe_non))
        pss_nil)
      (pss_cons (ps_if (PW.pt (pw_and (pt_cmpR op_in_seq (pv 3) (pe_gc (by rfl) T.v_BRANCHES) (by rfl)) (pw_and (pt_cmpR op_notN (pe_ix ix_tup (pe_ix ix_list (pv 5) pe_int (fun _ _ => rfl)) pe_int (fun _ _ => rfl)) pe_non (nomark _)) (pw_and1 (pt_cmpR op_eq (pe_ix ix_tup (pe_dget (by exact hu_of hr) (pv 2) (pe_ix ix_tup (pe_ix ix_list (pv 5) pe_int (fun _ _ => rfl)) pe_int (fun _ _ => rfl)) (fun _ _ => rfl)) pe_int (fun _ _ => rfl)) pe_str (nomark _))))))
        (pss_one (ps_set (i := 6) sc_told_word.nd rfl (Or.inl rfl) (pe_lst (pa_cons (pe_op op_sub (pe_ix ix_list (pv 6) pe_int (fun _ _ => rfl)) (pv 0)) pa_nil))))
        pss_nil)
      (pss_cons (ps_set (i := 7) sc_told_word.nd rfl (Or.inl rfl) (pe_callTy call_tuple_of (by rfl) T.f_tuple (by decide +kernel) (pa_cons (pe_op op_cat (pe_op op_cat (pe_lst (pa_cons (pv 3) pa_nil)) (pv 4)) (pv 6)) pa_nil)))
      (pss_one (ps_ret (pe_ifExp (pt_val (pe_c c_is_instruction hr (by decide) (by rfl) (pa_cons (pv 7) pa_nil))) (pe_c c_encoded hr (by decide) (by rfl) (pa_cons (pv 7) pa_nil)) pe_non)))))))), ?_⟩
    refine ⟨_, rfl, t, _, rfl, .inl (.inl et), rfl, _, _, rfl, _, _, rfl, _, _, rfl, rfl, ?_⟩
    have hkl : ks.length = vals.length := by
      have := congrArg List.length hks
      simp at this
      omega
    refine ⟨_, rfl, L, rfl, ⟨_, .inl (.inl eL)⟩, fun D hD => ?_⟩
    refine lc_vals (walk_list (xs := ys)) hD (by rw [hE.1]; omega) (fun i => .int (ks.getD i 0)) (fun H1 s1 => .inl (.inl (s1 _ _ eL))) (fun i x H1 H2 C Cf hi s1 y k => ?_) (fun H1 s1 e1 => ?_)
    · obtain ⟨rfl, hx⟩ := y
      have hi2 : i < vals.length := by rw [← hE.1]; exact hi
      obtain ⟨p, rfl, hp⟩ := hE.2 i x _ hx (List.getElem?_eq_getElem hi2)
      have hw1 : worthM ns vals[i] = some (ks.getD i 0) := by
        have h1 : (vals.map (worthM ns))[i]? = (ks.map some)[i]? := by rw [hks]
        rw [List.getElem?_map, List.getElem?_map, List.getElem?_eq_getElem hi2, List.getElem?_eq_getElem (by omega)] at h1
        rw [List.getD_eq_getElem?_getD, List.getElem?_eq_getElem (by omega)]
        exact Option.some.inj h1
      exact ⟨rfl, yes_in ⟨_, rfl, _, rfl, p, N, _, ns, _, rfl, s1 _ _ hp, hN.keep NoTup.nil (Keep.of_same s1) (by simp), hw1, k _ (Same.refl _)⟩⟩
    · have e1' : H1 D = some (.lst (ks.map V.int)) := by
        rw [e1, hE.1, ← hkl]
        exact congrArg (fun z => some (HO.lst z)) (range_map ks V.int 0)
      refine ⟨_, rfl, D, rfl, ⟨_, .inl (.inl e1')⟩, fun D2 hD2 => ?_⟩
      refine lc_vals (walk_list (xs := ks.map V.int)) hD2 (by rw [List.length_map]; omega) (fun _ => .bl false) (fun H2 s2 => .inl (.inl (s2 _ _ e1'))) (fun i x H2 H3 C Cf hi s2 y k => ?_) (fun H2 s2 e2 => ?_)
      · obtain ⟨rfl, hx⟩ := y
        rw [List.getElem?_map] at hx
        obtain ⟨j, hj, rfl⟩ := Option.map_eq_some_iff.mp hx
        exact ⟨rfl, yes_in ⟨_, rfl, rfl, k _ (Same.refl _)⟩⟩
      · rw [any_false] at e2
        refine ⟨D2, _, rfl, .inl (.inl e2), _, rfl, ?_⟩
        rw [any_rep]
        refine iteF ?_
        have sA := s1.trans s2
        have eD := s2 _ _ e1'
        delta tNext
        dsimp only
        refine seq_v (fun σ' H3 => ∃ L2, σ' = [some (.int place), some (.ref t), some (.ref N), some (.str (S n)), some (.ref R), some (.ref L), some (.ref L2), none, none, none] ∧ Same H H3 ∧ H3 L2 = some (.lst ((immM ns place (S n) vals ks).map V.int))) (fun σ' H3 hP => ?_) (fun N1 key => ?_)
        · obtain ⟨L2, rfl, s3, e3⟩ := hP
          obtain ⟨rsm, imm1⟩ : rs.length ≤ 3 ∧ (immM ns place (S n) vals ks).length ≤ 1 := by
            obtain ⟨f, a, b, c, d, i, ⟨_, hs, hr1, _, him⟩, _⟩ := id hw
            refine ⟨?_, ?_⟩
            · have := (sh_small _ hs).1
              dsimp only at this
              omega
            · rcases him with ⟨_, e⟩ | ⟨_, k, e, _⟩
              · rw [e]; decide
              · rw [e]; exact Nat.le_refl _
          refine ⟨_, rfl, sz (by show 1 ≤ 1000000; decide), fun u nu => ?_⟩
          generalize hH : upd _ u _ = H4
          have s4 := new_same hH nu
          have e4 : H4 u = some (.lst [.str (S n)]) := new_at hH
          refine ⟨_, rfl, u, R, _, _, rfl, rfl, e4, s4 _ _ (s3 _ _ eR), sz (by rw [List.length_map]; show 1 + _ ≤ _; omega), fun c nc => ?_⟩
          generalize hH : upd _ c _ = H5
          have s5 := new_same hH nc
          have e5 : H5 c = some (.lst ([.str (S n)] ++ rs.map fun r : Nat => V.int (r : Int))) := new_at hH
          refine ⟨_, rfl, c, L2, _, _, rfl, rfl, e5, s5 _ _ (s4 _ _ e3), sz (by rw [List.length_append, List.length_map, List.length_map]; show 1 + _ + _ ≤ _; omega), fun d nd => ?_⟩
          generalize hH : upd _ d _ = H6
          have s6 := new_same hH nd
          have e6 := new_at hH
          refine ⟨d, _, rfl, .inl ⟨.inl (.inl e6), fun p np => ?_⟩⟩
          generalize hH : upd _ p _ = H7
          have s7 := new_same hH np
          have e7 : InsAt H7 p (S n) rs (immM ns place (S n) vals ks) := new_at hH
          have sB := s3.trans (s4.trans (s5.trans (s6.trans s7)))
          refine ⟨_, rfl, p, _, _, _, rfl, e7, hw.ok, fun H8 s8 => ⟨_, rfl, iteT ⟨_, rfl, p, _, _, _, wd, rfl, s8 _ _ e7, hw, fun H9 s9 => ?_⟩⟩⟩
          exact q _ (sB.trans (s8.trans s9))
        · refine ⟨_, rfl, _, _, rfl, .inr (T.t_BRANCHES _), rfl, rfl, _, rfl, ?_⟩
          dsimp only
          rw [inV_branch]
          have stay : ¬ (S n ∈ branches ∧ labM ns vals = true) → immM ns place (S n) vals ks = ks := fun h => if_neg h
          have eL2 := sA _ _ eL
          by_cases hb : S n ∈ branches
          · refine iteDT hb ?_
            obtain ⟨v, rfl⟩ : ∃ v, vals = [v] := by
              match vals, hv1, hbr hb with
              | [v], _, _ => exact ⟨v, rfl⟩
              | [], _, h => exact absurd rfl h
              | _ :: _ :: _, h, _ => simp at h
            obtain ⟨k, rfl⟩ : ∃ k, ks = [k] := by
              match ks, hkl with
              | [k], _ => exact ⟨k, rfl⟩
            have hw1 : worthM ns v = some k := (List.cons.inj hks).1
            obtain ⟨y, rfl⟩ : ∃ y, ys = [y] := by
              have := hE.1
              match ys, this with
              | [y], _ => exact ⟨y, rfl⟩
            obtain ⟨p, rfl, hp⟩ := hE.cons.1
            have hp2 := sA _ _ hp
            obtain ⟨nm, j⟩ := v
            cases nm with
            | none =>
              refine ⟨_, rfl, L, _, 0, _, rfl, rfl, .inl (.inl eL2), atI_nat (j := 0) rfl, p, _, 0, _, rfl, rfl, .inl (.inl hp2), atI_nat (j := 0) rfl, rfl, _, rfl, iteF ?_⟩
              refine iteF (key _ _ ⟨D, rfl, sA, ?_⟩)
              rw [stay (fun h => by cases h.2)]
              exact eD
            | some m =>
              refine ⟨_, rfl, L, _, 0, _, rfl, rfl, .inl (.inl eL2), atI_nat (j := 0) rfl, p, _, 0, _, rfl, rfl, .inl (.inl hp2), atI_nat (j := 0) rfl, rfl, _, rfl, iteT ?_⟩
              have hN2 : NamesAt H2 N ns := hN.keep NoTup.nil (Keep.of_same sA) (by simp)
              obtain ⟨kvs, eN, pN⟩ := hN2
              have hk2 : (look ns m).map (fun z => z.2 + j) = some k := hw1
              rcases names_look pN m with ⟨h, _⟩ | ⟨z, t0, h1, h2, h3⟩
              · rw [h] at hk2
                cases hk2
              · refine ⟨_, rfl, _, rfl, L, _, 0, _, rfl, rfl, .inl (.inl eL2), atI_nat (j := 0) rfl, p, _, 0, _, rfl, rfl, .inl (.inl hp2), atI_nat (j := 0) rfl, N, .ref t0, rfl, ?_, t0, _, 0, _, rfl, rfl, .inl (.inl h3), atI_nat (j := 0) rfl, rfl, _, rfl, ?_⟩
                · rw [← h2]
                  exact DGet.k (k := Sum.inr (S m)) eN
                · obtain ⟨b, j2⟩ := z
                  have hl : labM ns [(some m, j)] = b := by
                    show (match look ns m with
                      | some (b, _) => b
                      | none => false) = b
                    rw [h1]
                  cases b with
                  | false =>
                    refine iteDF (by show ¬ V.str (sortS false) = V.str "label"; decide +kernel) (key _ _ ⟨D, rfl, sA, ?_⟩)
                    rw [stay (fun h => by rw [hl] at h; cases h.2)]
                    exact eD
                  | true =>
                    refine iteDT rfl ?_
                    refine ⟨_, rfl, D, _, 0, .int k, rfl, rfl, .inl (.inl eD), atI_nat (j := 0) rfl, _, rfl, _, _, rfl, rfl, sz (by show 1 ≤ 1000000; decide), fun u nu => ?_⟩
                    generalize hH : upd _ u _ = H4
                    have s4 := new_same hH nu
                    have e4 := new_at hH
                    refine key _ _ ⟨u, rfl, sA.trans s4, ?_⟩
                    rw [show immM ns place (S n) [(some m, j)] [k] = [k].map (fun k => k - place) from if_pos ⟨hb, hl⟩]
                    exact e4
          · refine iteDF hb (iteF (key _ _ ⟨D, rfl, sA, ?_⟩))
            rw [stay (fun h => hb h.1)]
            exact eD
abbrev N_told_words : List Str := ["place", "kind", "told", "names", "which", "value", "worth"]
theorem sc_told_words : FnScope N_told_words ["place", "kind", "told", "names"] (defScope s_told_words) := ⟨rfl, rfl, rfl, by decide +kernel, rfl, by decide +kernel, by decide +kernel⟩
def sp_told_words (K : PySem.W.Frag) : Sp := fun vs H Q _ => ∃ (F : Addr → Prop) (N : Addr) (y : V) (st : Stm) (ns : List Nm) (place : Int) (ws : List Int), vs = [.int place, .str st.kind, y, .ref N] ∧ ToldAt F H y st ∧ NamesAt H N ns ∧ RowW ns place st ws ∧ st.size ≤ 1000 ∧
  ∀ H' p, Same H H' → H p = none → H' p = some (.lst (ws.map V.int)) → Q (.ref p) H'
theorem cal_told_words (T : Tx w K mg) : C8.Cal P w K mg base 7 "told_words" (sp_told_words K) [] := by
  have c_word_worth := cal_word_worth (P := P) (base := base) T
  have c_told_word := cal_told_word (P := P) (base := base) T
  have c_encoded := cal_encoded (P := P) (base := base) T
  refine cal_of (st := s_told_words) (ps := ["place", "kind", "told", "names"]) T.d_told_words T.m_told_words sc_told_words (fun _ _ _ _ _ _ us hl => match us, hl with | [_, _, _, _], _ => rfl) (fun vs H Q E h => ?_) (fun cdv A outer s H vs Q E hr h => ?_)
  · obtain ⟨F, N, y, st, ns, place, ws, rfl, _⟩ := h
    rfl
  · obtain ⟨F, N, y, st, ns, place, ws, rfl, ht, hN, hw, hsz, q⟩ := h
    refine ⟨_, (pss_cons (ps_if (pt_cmpR op_eq (pv 1) pe_str (nomark _))
        (pss_one (ps_ret (pe_lst (pa_cons (pe_c c_told_word hr (by decide) (by rfl) (pa_cons (pv 0) (pa_cons (pv 2) (pa_cons (pv 3) pa_nil)))) pa_nil))))
        pss_nil)
      (pss_cons (ps_if (pt_cmpR op_eq (pv 1) pe_str (nomark _))
        (pss_cons (ps_asg (pv 2) (pg_tup rfl (pgs_cons (pg_name (i := 4) sc_told_words.nd rfl (Or.inl rfl)) (pgs_cons (pg_name (i := 5) sc_told_words.nd rfl (Or.inl rfl)) pgs_nil))))
        (pss_cons (ps_set (i := 6) sc_told_words.nd rfl (Or.inl rfl) (pe_c c_word_worth hr (by decide) (by rfl) (pa_cons (pv 5) (pa_cons (pv 3) pa_nil))))
        (pss_cons (ps_if (pt_cmpR op_isN (pv 6) pe_non (nomark _))
          (pss_one (ps_ret (pe_lst (pa_cons pe_non pa_nil))))
          pss_nil)
        (pss_one (ps_ret (pe_lst (pa_cons (pe_c c_encoded hr (by decide) (by rfl) (pa_cons (pe_tup (pa_cons pe_str (pa_cons (pv 4) (pa_cons (pe_op op_mod (pv 6) pe_int) pa_nil)))) pa_nil)) (pa_cons (pe_c c_encoded hr (by decide) (by rfl) (pa_cons (pe_tup (pa_cons pe_str (pa_cons (pv 4) (pa_cons (pe_op op_fdiv (pv 6) pe_int) pa_nil)))) pa_nil)) pa_nil))))))))
        pss_nil)
      (pss_one (ps_ret (pe_lc (own := [("value", 5)]) (g := gName 5) (tt := tYes) rfl sc_told_words.nd (pi_list (pv 2)) (blkOk_by (own := [("value", 5)]) (N := N_told_words) (sc := defScope s_told_words) (by decide +kernel)) (fun _ _ _ _ _ => pg_name (i := 5) sc_told_words.nd rfl (Or.inl rfl)) (fun _ _ _ _ _ => pts_nil) (fun _ _ _ _ _ => (pe_c c_word_worth hr (by decide) (by rfl) (pa_cons (pv 5) (pa_cons (pv 3) pa_nil))))))))), ?_⟩
    refine ⟨_, rfl, rfl, ?_⟩
    rw [kind_one]
    cases st with
    | equal n k => exact hw.elim
    | at_ p => exact hw.elim
    | one n rs vals =>
      obtain ⟨t, R, L, rfl, et, _, eR, _, hL⟩ := ht
      obtain ⟨ks, wd, h1, h2, h3, h4, rfl⟩ := hw
      refine ⟨_, rfl, iteT ⟨_, rfl, _, rfl, _, rfl, t, R, L, N, n, rs, vals, ns, place, ks, wd, rfl, et, eR, hL, hN, h1, h2, h3, h4, fun H1 s1 => ?_⟩⟩
      refine ⟨sz (by show 1 ≤ 1000000; decide), fun u nu => ?_⟩
      generalize hH : upd _ u _ = H2
      have s2 := new_same hH nu
      exact q _ u (s1.trans s2) (s1.free nu) (new_at hH)
    | set r v =>
      obtain ⟨t, a, rfl, et, ha⟩ := ht
      obtain ⟨k, w1, w2, h1, h2, h3, rfl⟩ := hw
      refine ⟨_, rfl, iteF ?_⟩
      refine ⟨_, rfl, rfl, _, rfl, iteDT rfl ?_⟩
      refine ⟨_, rfl, t, _, rfl, .inl (.inl et), rfl, _, _, rfl, _, _, rfl, rfl, ?_⟩
      refine ⟨_, rfl, _, rfl, a, N, v, ns, k, rfl, ha, hN, h1, ?_⟩
      refine ⟨_, rfl, rfl, _, rfl, iteF ?_⟩
      delta tNext
      dsimp only
      refine ⟨_, rfl, _, rfl, _, _, rfl, rfl, by show (0 : Int) < 256; decide, sz (by show 3 ≤ 1000000; decide), fun u nu => ?_⟩
      generalize hH : upd _ u _ = H1
      have s1 := new_same hH nu
      have e1 : InsAt H1 u "lim" [r] [k % 256] := new_at hH
      refine ⟨u, _, [r], _, w1, rfl, e1, h2, fun H2 s2 => ?_⟩
      refine ⟨_, rfl, _, rfl, _, _, rfl, rfl, ⟨by decide, by decide⟩, sz (by show 3 ≤ 1000000; decide), fun u2 nu2 => ?_⟩
      generalize hH : upd _ u2 _ = H3
      have s3 := new_same hH nu2
      have e3 : InsAt H3 u2 "lhi" [r] [k / 256] := new_at hH
      refine ⟨u2, _, [r], _, w2, rfl, e3, h3, fun H4 s4 => ?_⟩
      refine ⟨sz (by show 2 ≤ 1000000; decide), fun u4 nu4 => ?_⟩
      generalize hH : upd _ u4 _ = H5
      have s5 := new_same hH nu4
      have sA := s1.trans (s2.trans (s3.trans s4))
      exact q _ u4 (sA.trans s5) (sA.free nu4) (new_at hH)
    | words vals =>
      obtain ⟨L, rfl, _, ys, eL, hE⟩ := ht
      refine ⟨_, rfl, iteF ?_⟩
      refine ⟨_, rfl, rfl, _, rfl, iteDF (by show ¬ V.str "words" = V.str "set"; decide +kernel) ?_⟩
      delta tNext
      dsimp only
      have hw2 : vals.map (wordM ns) = ws.map some := hw
      have hkl : ws.length = vals.length := by
        have := congrArg List.length hw2
        simp at this
        omega
      have hvl : vals.length ≤ 1000 := hsz
      refine ⟨_, rfl, L, rfl, ⟨_, .inl (.inl eL)⟩, fun D hD => ?_⟩
      refine lc_vals (walk_list (xs := ys)) hD (by rw [hE.1]; omega) (fun i => .int (ws.getD i 0)) (fun H1 s1 => .inl (.inl (s1 _ _ eL))) (fun i x H1 H2 C Cf hi s1 y k => ?_) (fun H1 s1 e1 => ?_)
      · obtain ⟨rfl, hx⟩ := y
        have hi2 : i < vals.length := by rw [← hE.1]; exact hi
        obtain ⟨p, rfl, hp⟩ := hE.2 i x _ hx (List.getElem?_eq_getElem hi2)
        have hw1 : wordM ns vals[i] = some (ws.getD i 0) := by
          have h1 : (vals.map (wordM ns))[i]? = (ws.map some)[i]? := by rw [hw2]
          rw [List.getElem?_map, List.getElem?_map, List.getElem?_eq_getElem hi2, List.getElem?_eq_getElem (by omega)] at h1
          rw [List.getD_eq_getElem?_getD, List.getElem?_eq_getElem (by omega)]
          exact Option.some.inj h1
        exact ⟨rfl, yes_in ⟨_, rfl, _, rfl, p, N, _, ns, _, rfl, s1 _ _ hp, hN.keep NoTup.nil (Keep.of_same s1) (by simp), hw1, k _ (Same.refl _)⟩⟩
      · refine q _ D s1 hD ?_
        rw [e1, hE.1, ← hkl]
        exact congrArg (fun z => some (HO.lst z)) (range_map ws V.int 0)
end
end K21
/-! ## WO -/
set_option Elab.async false
set_option linter.all false
set_option maxRecDepth 100000
set_option maxHeartbeats 4000000
namespace K21
open PySem PySem.Spec PyProof.Rows L2 C8
local macro_rules | `(tactic| walk_at "adv") => `(tactic| repeat (first | refine ⟨_, rfl, ?_⟩ | refine ⟨rfl, ?_⟩ | refine ⟨_, _, rfl, rfl, ?_⟩ | refine iteT ?_ | refine iteF ?_))

def LineOk (l : List Nat) (lab : Option (List Nat)) (st : Stm) : Prop := l.length ≤ 100000 ∧ 10 ∉ l ∧ ∃ ws rest, Toks l ws ∧ LabOf ws lab rest ∧ (∀ w ∈ ws, w ≠ [] ∧ w.length ≤ 1000 ∧ Asc w) ∧ Shaped rest st
inductive Chain : LaySt → Nat → List (List Nat) → LaySt → Prop where
  | nil {s : LaySt} {n : Nat} : Chain s n [] s
  | cons {s s' : LaySt} {n : Nat} {l : List Nat} {ls : List (List Nat)} {lab : Option (List Nat)} {st : Stm} : LineOk l lab st → TakeOk s lab st → st.size ≤ 1000 → Chain (takeM s ((n : Int) + 1) lab st) (n + 1) ls s' → Chain s n (l :: ls) s'
inductive PartsR (ns : List Nm) : List Row → List (Nat × List Int) → Prop where
  | nil : PartsR ns [] []
  | skip {r : Row} {rs : List Row} {ps : List (Nat × List Int)} : RowW ns r.place r.st [] → r.st.size ≤ 1000 → PartsR ns rs ps → PartsR ns (r :: rs) ps
  | add {r : Row} {rs : List Row} {ps : List (Nat × List Int)} {ws : List Int} : RowW ns r.place r.st ws → r.st.size ≤ 1000 → ws ≠ [] → PartsR ns rs ps → PartsR ns (r :: rs) ((r.place, ws) :: ps)
def GoneR (z : Str) (ns : List Nm) (ps : List (Nat × List Int)) : Prop := ∃ (lines : List (List Nat)) (s : LaySt), z = S (TL.joinL [10] lines) ∧ (TL.joinL [10] lines).length ≤ 900000 ∧ lines ≠ [] ∧ lines.length ≤ 500 ∧ Chain ⟨0, [], []⟩ 0 lines s ∧ PartsR s.names s.rows ps ∧ ns = s.names
def PartV (F : Addr → Prop) (y : V) (d : Nat × List Int) (H : Hp) : Prop := ∃ a b, y = .ref a ∧ H a = some (.tup [.int (d.1 : Int), .ref b]) ∧ F b ∧ H b = some (.lst (d.2.map V.int))
theorem PartV.keep {Sx : List Addr} {F : Addr → Prop} {H H' : Hp} (n : NoTup Sx H) (k : Keep Sx H H') (hF : ∀ a, F a → a ∉ Sx) {y : V} {d : Nat × List Int} (h : PartV F y d H) : PartV F y d H' := by
  obtain ⟨a, b, e, h1, f, h2⟩ := h
  exact ⟨a, b, e, k _ _ (n.out h1) h1, f, k _ _ (hF _ f) h2⟩
theorem keep_fresh {Sx : List Addr} {H H' : Hp} (k : Keep Sx H H') (h : ∀ a ∈ Sx, H a = none) : Same H H' := fun b o e => k b o (fun m => by rw [h b m] at e; cases e) e
theorem take_grow (s : LaySt) (num : Int) (lab : Option (List Nat)) (st : Stm) : (takeM s num lab st).names.length ≤ s.names.length + 1 ∧ (takeM s num lab st).rows.length ≤ s.rows.length + 1 := by
  cases st <;> cases lab <;> simp [takeM, labN]
def GoneA (C : Addr) (x dx N Tk R P : Addr) (z : Str) (lines : List (List Nat)) (s9 : LaySt) (H3 : Hp) (i : Nat) (σ : L2.St) (H : Hp) : Prop := ∃ (s : LaySt) (y3 y4 : Option V), σ = [some (.str z), some (.ref x), some (.ref P), y3, y4, none, none, none, none, none, none] ∧ LayAt C [x, N, Tk, R, P] H x dx N Tk R s ∧ Keep (Lx x N Tk R) H3 H ∧ Chain s i (lines.drop i) s9 ∧ s.names.length ≤ i ∧ s.rows.length ≤ i
def GoneB (x P : Addr) (z : Str) (ns : List Nm) (rows : List Row) (ps : List (Nat × List Int)) (H3 : Hp) (i : Nat) (σ : L2.St) (H : Hp) : Prop := ∃ y3 y4 y5 y6 y7 y8 y9 y10 : Option V, σ = [some (.str z), some (.ref x), some (.ref P), y3, y4, y5, y6, y7, y8, y9, y10] ∧ Keep [P] H3 H ∧ (∀ a, H3 a ≠ none → H a ≠ none) ∧
  ∃ done pd rest, H P = some (.lst done) ∧ Each (PartV fun b => b ≠ P) H done pd ∧ PartsR ns (rows.drop i) rest ∧ pd ++ rest = ps ∧ done.length ≤ i
theorem str_nl : ("\n" : Str) = S [10] := by decide +kernel
theorem split_lines {lines : List (List Nat)} (hne : lines ≠ []) (hfree : ∀ l ∈ lines, 10 ∉ l) : Txt.split (S (TL.joinL [10] lines)) "\n" = lines.map S := by
  rw [str_nl, SX.split_S (by decide) (by decide), TL.spl_join hne hfree]
theorem parts_inv {ns : List Nm} {r : Row} {rs : List Row} {ps : List (Nat × List Int)} (h : PartsR ns (r :: rs) ps) : ∃ ws, RowW ns r.place r.st ws ∧ r.st.size ≤ 1000 ∧ ((ws = [] ∧ PartsR ns rs ps) ∨ (ws ≠ [] ∧ ∃ ps2, ps = (r.place, ws) :: ps2 ∧ PartsR ns rs ps2)) := by
  cases h with
  | skip h1 h2 h3 => exact ⟨[], h1, h2, .inl ⟨rfl, h3⟩⟩
  | add h1 h2 h3 h4 => exact ⟨_, h1, h2, .inr ⟨h3, _, rfl, h4⟩⟩
theorem row_len {ns : List Nm} {p : Int} {st : Stm} {ws : List Int} (h : RowW ns p st ws) : ws.length = st.size := by
  cases st with
  | words vs =>
    have := congrArg List.length (show vs.map (wordM ns) = ws.map some from h)
    simp at this
    exact this.symm
  | equal n k => exact h.elim
  | at_ p => exact h.elim
  | one n rs vs =>
    obtain ⟨_, _, _, _, _, _, e⟩ := h
    rw [e]
    rfl
  | set r v =>
    obtain ⟨_, _, _, _, _, _, e⟩ := h
    rw [e]
    rfl
theorem sh_ints (l : List Int) : Sh 1 (.list (l.map PyData.int)) := Sh.list fun d h => by
  obtain ⟨x, _, rfl⟩ := List.mem_map.mp h
  exact Sh.int x

section
variable {P : Program} {w : World} {K : PySem.W.Frag} {mg : Str → Option Value} {base : Heap}
abbrev N_gone_through : List Str := ["text", "layout", "parts", "at", "line", "number", "place", "kind", "told", "found", "word"]
theorem sc_gone_through : FnScope N_gone_through ["text"] (defScope s_gone_through) := ⟨rfl, rfl, rfl, by decide +kernel, rfl, by decide +kernel, by decide +kernel⟩
def sp_gone_through (C : Addr) : Sp := fun vs H Q _ => ∃ (z : Str) (ns : List Nm) (ps : List (Nat × List Int)), vs = [.str z] ∧ GoneR z ns ps ∧
  ∀ H' p x dx fs N P, Same H H' → H p = none → H' p = some (.tup [.non, .ref x, .ref P]) → H' x = some (.ins C dx fs) → fs.lookup ("own_names" : Str) = some (.ref N) → NamesAt H' N ns → (∃ ys, H' P = some (.lst ys) ∧ Each (PartV fun _ => True) H' ys ps) → Q (.ref p) H'
theorem cal_gone_through (T : Tx w K mg) : C8.Cal P w K mg base 8 "gone_through" (sp_gone_through (He.ga K "Layout")) [] := by
  have m_Layout := mak_Layout (P := P) (base := base) T
  have c_told_words := cal_told_words (P := P) (base := base) T
  have me_Layout_take := met_Layout_take (P := P) (base := base) T
  refine cal_of (st := s_gone_through) (ps := ["text"]) T.d_gone_through T.m_gone_through sc_gone_through (fun _ _ _ _ _ _ us hl => match us, hl with | [_], _ => rfl) (fun vs H Q E h => ?_) (fun cdv A outer s H vs Q E hr h => ?_)
  · obtain ⟨z, ns, ps, rfl, _⟩ := h
    rfl
  · obtain ⟨z, ns, ps, rfl, ⟨lines, s9, rfl, hz, hne, hll, hch, hpr, rfl⟩, q⟩ := h
    refine ⟨_, (pss_cons (ps_par (i := 1) (j := 2) (by rfl) sc_gone_through.nd rfl rfl (by decide) rfl rfl (pa_cons (pe_mk0 m_Layout hr (by decide) (by rfl)) (pa_cons (pe_lst pa_nil) pa_nil)) (by rfl))
      (pss_cons (ps_for PassesOwn.never rfl (pi_enum (by rfl) T.f_enumerate (pa_cons (pe_split (pv 0) pe_str) pa_nil)) (pg_tup rfl (pgs_cons (pg_name (i := 3) sc_gone_through.nd rfl (Or.inl rfl)) (pgs_cons (pg_name (i := 4) sc_gone_through.nd rfl (Or.inl rfl)) pgs_nil)))
        (pss_one (ps_if (pt_not (pt_val (pe_mt me_Layout_take hr (by decide) (pv 1) (pa_cons (pe_op op_add (pv 3) pe_int) (pa_cons (pv 4) pa_nil)))))
          (pss_one (ps_ret (pe_tup (pa_cons (pe_op op_add (pv 3) pe_int) (pa_cons (pv 1) (pa_cons (pe_lst pa_nil) pa_nil))))))
          pss_nil)))
      (pss_cons (ps_for PassesOwn.never rfl (pi_list (pe_fld (pv 1) rfl)) (pg_tup rfl (pgs_cons (pg_name (i := 5) sc_gone_through.nd rfl (Or.inl rfl)) (pgs_cons (pg_name (i := 6) sc_gone_through.nd rfl (Or.inl rfl)) (pgs_cons (pg_name (i := 7) sc_gone_through.nd rfl (Or.inl rfl)) (pgs_cons (pg_name (i := 8) sc_gone_through.nd rfl (Or.inl rfl)) pgs_nil)))))
        (pss_cons (ps_set (i := 9) sc_gone_through.nd rfl (Or.inl rfl) (pe_c c_told_words hr (by decide) (by rfl) (pa_cons (pv 6) (pa_cons (pv 7) (pa_cons (pv 8) (pa_cons (pe_fld (pv 1) rfl) pa_nil))))))
        (pss_cons (ps_if (pt_val (pe_callB (cr_any rfl) (by rfl) T.f_any (by decide +kernel) (pa_cons (pe_lc (own := [("word", 10)]) (g := gName 10) (tt := tYes) rfl sc_gone_through.nd (pi_list (pv 9)) (blkOk_by (own := [("word", 10)]) (N := N_gone_through) (sc := defScope s_gone_through) (by decide +kernel)) (fun _ _ _ _ _ => pg_name (i := 10) sc_gone_through.nd rfl (Or.inl rfl)) (fun _ _ _ _ _ => pts_nil) (fun _ _ _ _ _ => (pe_cmpR op_isN (pv 10) pe_non (nomark _)))) pa_nil)))
          (pss_one (ps_ret (pe_tup (pa_cons (pv 5) (pa_cons (pv 1) (pa_cons (pe_lst pa_nil) pa_nil))))))
          pss_nil)
        (pss_one (ps_if (pt_cmpR (op_neD hr.units) (pv 9) (pe_lst pa_nil) (nomark _))
          (pss_one (ps_expr (pe_bm PySem.F.plainAttrs_list PySem.F.slot_list_append PySem.F.type_list_append mt_append (pv 2) (pa_cons (pe_tup (pa_cons (pv 6) (pa_cons (pv 9) pa_nil))) pa_nil))))
          pss_nil)))))
      (pss_one (ps_ret (pe_tup (pa_cons pe_non (pa_cons (pv 1) (pa_cons (pv 2) pa_nil))))))))), ?_⟩
    refine fun x dx nx ndx hxd => ⟨x, dx, rfl, upd_same, fun H1 N Tk R k1 nN nT nR hNT e1 eN eT eR => ⟨rfl, ?_⟩⟩
    refine ⟨Nat.zero_le _, fun Pa nP => ?_⟩
    generalize hH : upd H1 Pa _ = H2
    have s2 := new_same hH nP
    have eP : H2 Pa = some (.lst []) := new_at hH
    have s0 : Same H H1 := fun b o e => k1 b o (by have := ne_of_none e nx; simpa using this) (by
      rw [upd_ne (ne_of_none e nx), upd_ne (ne_of_none e ndx)]
      exact e)
    have fN : H N = none := by
      cases q1 : H N with
      | none => rfl
      | some o =>
        have h1 : upd (upd H dx (.own x)) x (.ins (He.ga K "Layout") dx []) N = some o := by
          rw [upd_ne (ne_of_none q1 nx), upd_ne (ne_of_none q1 ndx)]
          exact q1
        rw [h1] at nN
        cases nN
    have al1 : ∀ a ∈ Lx x N Tk R, H1 a ≠ none := fun a ha z => by
      have ha' : a = x ∨ a = N ∨ a = Tk ∨ a = R := by simpa [Lx] using ha
      rcases ha' with e | e | e | e <;> rw [e] at z
      · rw [e1] at z; cases z
      · rw [eN] at z; cases z
      · rw [eT] at z; cases z
      · rw [eR] at z; cases z
    have hL0 : LayAt (He.ga K "Layout") [x, N, Tk, R, Pa] H2 x dx N Tk R ⟨0, [], []⟩ := by
      refine ⟨s2 _ _ e1, ⟨[], s2 _ _ eN, .nil⟩, ⟨[], s2 _ _ eT, Nat.le_refl _, fun kv m => by simp at m⟩, ⟨[], s2 _ _ eR, Each.nil⟩, hNT, by simp, fun a ha xs z => ?_, fun a ha z => ?_, by simp⟩
      · have ha' : a = x ∨ a = N ∨ a = Tk ∨ a = R ∨ a = Pa := by simpa using ha
        rcases ha' with e | e | e | e | e <;> rw [e] at z
        · rw [s2 _ _ e1] at z; cases z
        · rw [s2 _ _ eN] at z; cases z
        · rw [s2 _ _ eT] at z; cases z
        · rw [s2 _ _ eR] at z; cases z
        · rw [eP] at z; cases z
      · have ha' : a = x ∨ a = N ∨ a = Tk ∨ a = R ∨ a = Pa := by simpa using ha
        rcases ha' with e | e | e | e | e <;> rw [e] at z
        · rw [s2 _ _ e1] at z; cases z
        · rw [s2 _ _ eN] at z; cases z
        · rw [s2 _ _ eT] at z; cases z
        · rw [s2 _ _ eR] at z; cases z
        · rw [eP] at z; cases z
    refine ⟨_, _, rfl, ?_⟩
    have hfree : ∀ l ∈ lines, 10 ∉ l := by
      have go : ∀ (s : LaySt) (n : Nat) (ls : List (List Nat)) (s' : LaySt), Chain s n ls s' → ∀ l ∈ ls, 10 ∉ l := fun s n ls s' h => by
        induction h with
        | nil => intro l m; simp at m
        | cons h1 _ _ _ ih =>
          intro l m
          rcases List.mem_cons.mp m with e | m
          · rw [e]; exact h1.2.1
          · exact ih l m
      exact go _ _ _ _ hch
    have esp := split_lines hne hfree
    refine ⟨_, rfl, ⟨_, rfl⟩, _, _, rfl, rfl, by decide +kernel, sz (by rw [S_len]; omega), fun L nL => ?_⟩
    rw [esp]
    generalize hH : upd _ L _ = H3
    have s3 := new_same hH nL
    have eL : H3 L = some (.lst ((lines.map S).map V.str)) := new_at hH
    have hlm : ((lines.map S).map V.str).length = lines.length := by rw [List.length_map, List.length_map]
    have LS : L ∉ Lx x N Tk R := fun m => al1 L m (s2.free nL)
    refine ⟨L, _, rfl, .inl (.inl eL), ?_⟩
    refine for_it (walk_enum (xs := (lines.map S).map V.str)) (GoneA (He.ga K "Layout") x dx N Tk R Pa _ lines s9 H3) ⟨_, none, none, rfl, hL0.same s3, Keep.refl _ _, hch, Nat.zero_le _, Nat.zero_le _⟩ (fun i σ H4 _ h => ?_) (fun i v σ H4 H5 hi h y => ?_) (fun σ H4 h => ?_)
    · obtain ⟨s, y3, y4, _, _, k4, _⟩ := h
      exact .inl (.inl (k4 _ _ LS eL))
    · obtain ⟨s, y3, y4, rfl, hL4, k4, hc, hn, hr⟩ := h
      obtain ⟨tt, v1, v2, rfl, nt, rfl, h1, h2⟩ := y
      obtain rfl := Option.some.inj h1
      have hi2 : i < lines.length := by rw [← hlm]; exact hi
      have h2' : ((lines.map S).map V.str)[i]? = some v2 := h2
      rw [List.getElem?_map, List.getElem?_map, List.getElem?_eq_getElem hi2] at h2'
      obtain rfl := (Option.some.inj h2').symm
      rw [List.drop_eq_getElem_cons hi2] at hc
      cases hc with
      | @cons _ _ _ _ _ lab st hlo hto hss hc2 =>
        obtain ⟨hll1, _, ws, rest, ht, hlab, hws, hsh⟩ := hlo
        have hL5 := hL4.same (same_new (o := .tup [.int (i : Nat), .str (S lines[i])]) nt)
        refine ⟨tt, _, rfl, .inl (.inl upd_same), rfl, _, _, rfl, _, _, rfl, rfl, ?_⟩
        refine ⟨_, rfl, x, dx, _, rfl, hL5.ins, lf_no _ _ _ _ (by decide +kernel) (by decide +kernel) (by decide +kernel) (by decide +kernel), ?_⟩
        refine ⟨_, rfl, _, _, rfl, rfl, _, rfl, _, x, dx, N, Tk, R, s, _, _, ws, lab, rest, st, rfl, hL5, hll1, ht, hlab, hws, hsh, hto, by omega, by omega, fun H6 k6 h6 => ⟨_, rfl, iteF ?_⟩⟩
        have hg := take_grow s ((i : Int) + 1) lab st
        exact ⟨_, _, _, rfl, h6, k4.trans ((Keep.of_same (same_new nt)).trans k6), hc2, by omega, by omega⟩
    · obtain ⟨s, y3, y4, rfl, hL4, k4, hc, hn, hr⟩ := h
      rw [List.drop_of_length_le (by rw [hlm]; exact Nat.le_refl _)] at hc
      cases hc
      have hx4 := hL4.ins
      obtain ⟨rv, eR4, hR4⟩ := hL4.rows
      have hrl := hR4.1
      have eP4 : H4 Pa = some (.lst []) := by
        have hP : Pa ∉ Lx x N Tk R := fun m => al1 Pa m nP
        exact k4 _ _ hP (s3 _ _ eP)
      refine ⟨_, rfl, x, _, dx, _, _, rfl, hx4, T.cl_Layout, T.na_Layout_own_rows, lf_rows _ _ _ _, R, rfl, ⟨_, .inl (.inl eR4)⟩, ?_⟩
      have RP : R ≠ Pa := fun z => al1 R (by simp [Lx]) (by rw [z]; exact nP)
      refine for_it (walk_list (xs := rv)) (GoneB x Pa _ s9.names s9.rows ps H4) ⟨_, _, _, _, _, _, _, _, rfl, Keep.refl _ _, fun _ h => h, [], [], ps, eP4, Each.nil, hpr, rfl, Nat.le_refl _⟩ (fun i σ H5 _ h => ?_) (fun i v σ H50 H5 hi h y => ?_) (fun σ H5 h => ?_)
      · obtain ⟨y3, y4, y5, y6, y7, y8, y9, y10, rfl, k5, _⟩ := h
        exact .inl (.inl (k5.one RP eR4))
      · obtain ⟨y3, y4, y5, y6, y7, y8, y9, y10, rfl, k5, al5, done, pd, rest, eP5, hE5, hpr5, hps, hdl⟩ := h
        obtain ⟨rfl, hv⟩ := y
        have hi2 : i < s9.rows.length := by rw [← hrl]; exact hi
        have n4 : NoTup [Pa] H4 := NoTup.one eP4
        have n5 : NoTup [Pa] H5 := NoTup.one eP5
        obtain ⟨a, tv, rfl, ea, htold⟩ := (hR4.2 i v _ hv (List.getElem?_eq_getElem hi2)).keep (Sx := [Pa]) n4 k5 fun b hb hm => hb (by
          have : b = Pa := by simpa using hm
          simp [this])
        rw [List.drop_eq_getElem_cons hi2] at hpr5
        obtain ⟨ws, hw, hsz, hcase⟩ := parts_inv hpr5
        have hwl := row_len hw
        have xP : x ≠ Pa := fun z => al1 x (by simp [Lx]) (by rw [z]; exact nP)
        have hN5 : NamesAt H5 N s9.names := hL4.names.keep n4 k5 (fun m => al1 N (by simp [Lx]) (by
          have : N = Pa := by simpa using m
          rw [this]; exact nP))
        refine ⟨a, _, rfl, .inl (.inl ea), rfl, _, _, rfl, _, _, rfl, _, _, rfl, _, _, rfl, rfl, ?_⟩
        refine ⟨_, rfl, _, rfl, _, rfl, _, rfl, x, _, dx, _, _, rfl, k5.one xP hx4, T.cl_Layout, T.na_Layout_own_names, lf_names _ _ _ _, _, N, tv, _, s9.names, _, ws, rfl, htold, hN5, hw, hsz, fun H6 p s6 np ep => ?_⟩
        refine ⟨_, rfl, p, rfl, ⟨_, .inl (.inl ep)⟩, fun D hD => ?_⟩
        refine lc_vals (walk_list (xs := ws.map V.int)) hD (by rw [List.length_map]; omega) (fun _ => .bl false) (fun H7 s7 => .inl (.inl (s7 _ _ ep))) (fun j v2 H7 H8 C Cf hj s7 y k => ?_) (fun H7 s7 e7 => ?_)
        · obtain ⟨rfl, hy⟩ := y
          rw [List.getElem?_map] at hy
          obtain ⟨j2, _, rfl⟩ := Option.map_eq_some_iff.mp hy
          exact ⟨rfl, yes_in ⟨_, rfl, rfl, k _ (Same.refl _)⟩⟩
        · rw [any_false] at e7
          refine ⟨D, _, rfl, .inl (.inl e7), _, rfl, ?_⟩
          rw [any_rep]
          refine iteF ?_
          refine ⟨_, rfl, Nat.zero_le _, fun u nu => ?_⟩
          generalize hH : upd _ u _ = H8
          have s8 := new_same hH nu
          have e8 : H8 u = some (.lst []) := new_at hH
          have s68 := s6.trans (s7.trans s8)
          have ep8 := s8 _ _ (s7 _ _ ep)
          refine ⟨_, _, .lst (.inl (.inl ep8)) (dp_ints _ _ ws), .lst (.inl (.inl e8)) .nil, (sh_ints ws).shaped (by decide), sh_nil.shaped (by decide), _, rfl, ?_⟩
          rw [eqv_nil]
          have eP8 := s68 _ _ eP5
          have al8 : ∀ a, H4 a ≠ none → H8 a ≠ none := fun a h z => al5 a h (s68.free z)
          rcases hcase with ⟨rfl, hr2⟩ | ⟨hne2, ps2, rfl, hr2⟩
          · refine iteF ?_
            refine ⟨_, _, _, _, _, _, _, _, rfl, k5.trans (Keep.of_same s68), al8, done, pd, rest, eP8, hE5.imp fun y d r => r.keep NoTup.nil (Keep.of_same s68) fun b _ => by simp, hr2, hps, by omega⟩
          · have : (ws.map PyData.int).isEmpty = false := by
              cases ws with
              | nil => exact absurd rfl hne2
              | cons _ _ => rfl
            rw [this]
            refine iteT ?_
            refine ⟨_, rfl, .inl ⟨rfl, _, .inl (.inl eP8)⟩, _, rfl, _, rfl, sz (by show 2 ≤ 1000000; decide), fun t nt => ?_⟩
            generalize hH : upd _ t _ = H9
            have s9' := new_same hH nt
            have e9 : H9 t = some (.tup [.int (s9.rows[i].place : Int), .ref p]) := new_at hH
            have s69 := s68.trans s9'
            refine ⟨Pa, done, _, rfl, rfl, s9' _ _ eP8, szl (by omega), ?_⟩
            have tP : t ≠ Pa := fun z => by rw [z, eP8] at nt; cases nt
            have pP : p ≠ Pa := fun z => by rw [z, eP5] at np; cases np
            generalize hH : upd _ Pa _ = HA
            have kA : Keep [Pa] H9 HA := by rw [← hH]; exact Keep.put (by simp)
            have eA := new_at hH
            have n9 : NoTup [Pa] H9 := NoTup.one (s9' _ _ eP8)
            refine ⟨_, _, _, _, _, _, _, _, rfl, k5.trans ((Keep.of_same s69).trans kA), fun a h z => ?_, _, pd ++ [(s9.rows[i].place, ws)], ps2, eA, Each.snoc (hE5.imp fun y d r => (r.keep NoTup.nil (Keep.of_same s69) fun b _ => by simp).keep n9 kA fun b hb hm => hb (by simpa using hm)) ⟨t, p, rfl, kA.one tP e9, pP, kA.one pP (s9' _ _ ep8)⟩, hr2, by rw [List.append_assoc]; exact hps, by simp; omega⟩
            by_cases hb : a = Pa
            · rw [hb, eA] at z
              cases z
            · have h9 : H9 a ≠ none := fun z2 => al8 a h (s9'.free z2)
              rw [← hH, upd_ne hb] at z
              exact h9 z
      · obtain ⟨y3, y4, y5, y6, y7, y8, y9, y10, rfl, k5, al5, done, pd, rest, eP5, hE5, hpr5, hps, hdl⟩ := h
        rw [List.drop_of_length_le (by rw [hrl]; exact Nat.le_refl _)] at hpr5
        cases hpr5
        rw [List.append_nil] at hps
        subst hps
        refine ⟨_, rfl, _, rfl, sz (by show 3 ≤ 1000000; decide), fun t nt => ?_⟩
        generalize hH : upd _ t _ = H6
        have s6 := new_same hH nt
        have e6 := new_at hH
        have n4 : NoTup [Pa] H4 := NoTup.one eP4
        have xP : x ≠ Pa := fun z => al1 x (by simp [Lx]) (by rw [z]; exact nP)
        have hN5 : NamesAt H5 N s9.names := hL4.names.keep n4 k5 (fun m => al1 N (by simp [Lx]) (by
          have : N = Pa := by simpa using m
          rw [this]; exact nP))
        have kH : ∀ b o, H b = some o → H5 b = some o := fun b o e => by
          have h1 := s0 _ _ e
          have h3 := s3 _ _ (s2 _ _ h1)
          have bP : b ≠ Pa := ne_of_none h1 nP
          have bx : b ≠ x := ne_of_none e nx
          refine k5.one bP (k4 _ _ (fun m => ?_) h3)
          have m' : b = x ∨ b = N ∨ b = Tk ∨ b = R := by simpa [Lx] using m
          have h0 : upd (upd H dx (.own x)) x (.ins (He.ga K "Layout") dx []) b = some o := by
            rw [upd_ne (ne_of_none e nx), upd_ne (ne_of_none e ndx)]
            exact e
          rcases m' with z | z | z | z
          · exact bx z
          · rw [z, nN] at h0; cases h0
          · rw [z, nT] at h0; cases h0
          · rw [z, nR] at h0; cases h0
        have sH : Same H H6 := fun b o e => s6 _ _ (kH b o e)
        have sH5 : Same H H5 := kH
        refine q H6 t x dx _ N Pa sH (sH5.free nt) e6 (s6 _ _ (k5.one xP hx4)) (lf_names _ _ _ _) (hN5.keep NoTup.nil (Keep.of_same s6) (by simp)) ⟨done, s6 _ _ eP5, hE5.imp fun y d r => ?_⟩
        obtain ⟨a, b, e, h1, _, h2⟩ := r
        exact ⟨a, b, e, s6 _ _ h1, trivial, s6 _ _ h2⟩
end
end K21
/-! ## K21Sort -/
set_option Elab.async false
set_option linter.all false
set_option maxRecDepth 100000
set_option maxHeartbeats 4000000
namespace K21
open PySem PySem.Spec PyProof.Rows L2 Srt SrtO
/-! sorted of a list of pairs (text, int) -/
theorem slt_asym {a b : List Nat} (h : a < b) : ¬ b < a := fun z => List.lt_irrefl _ (List.lt_trans h z)
theorem sle_trans {a b c : List Nat} (h1 : ¬ b < a) (h2 : ¬ c < b) : ¬ c < a := fun z => by
  rw [List.not_lt] at h1 h2
  exact absurd z (List.not_lt.mpr (List.le_trans h1 h2))
theorem sle_eq {a b : List Nat} (h1 : ¬ b < a) (h2 : ¬ a < b) : a = b := List.le_antisymm (List.not_lt.mp h1) (List.not_lt.mp h2)
def SI (p q : Str × Int) : Prop := p.1.cps.toList < q.1.cps.toList ∨ (p.1 = q.1 ∧ p.2 < q.2)
instance (p q : Str × Int) : Decidable (SI p q) := by unfold SI; exact inferInstance
def lexSI (p q : Str × Int) : Bool := decide (SI p q)
theorem SI.asym {p q : Str × Int} (h : SI p q) : ¬ SI q p := fun z => by
  rcases h with h | ⟨e, h⟩ <;> rcases z with z | ⟨e2, z⟩
  · exact slt_asym h z
  · rw [e2] at h; exact List.lt_irrefl _ h
  · rw [e] at z; exact List.lt_irrefl _ z
  · omega
theorem str_of_cps {a b : Str} (h : a.cps.toList = b.cps.toList) : a = b := by
  rw [← S_cl a, ← S_cl b]
  exact congrArg S h
theorem SI.tot {p q : Str × Int} (h1 : ¬ SI p q) (h2 : ¬ SI q p) : p = q := by
  have e1 : p.1 = q.1 := str_of_cps (sle_eq (fun z => h2 (.inl z)) (fun z => h1 (.inl z)))
  have e2 : p.2 = q.2 := by
    have a1 : ¬ p.2 < q.2 := fun z => h1 (.inr ⟨e1, z⟩)
    have a2 : ¬ q.2 < p.2 := fun z => h2 (.inr ⟨e1.symm, z⟩)
    omega
  exact Prod.ext e1 e2
theorem SI.ntr {x y z : Str × Int} (h1 : ¬ SI y x) (h2 : ¬ SI z y) : ¬ SI z x := fun h => by
  have a1 : ¬ y.1.cps.toList < x.1.cps.toList := fun q => h1 (.inl q)
  have a2 : ¬ z.1.cps.toList < y.1.cps.toList := fun q => h2 (.inl q)
  rcases h with h | ⟨e, h⟩
  · exact sle_trans a1 a2 h
  · rw [e] at a2
    have e3 : x.1 = y.1 := str_of_cps (sle_eq a1 a2)
    have b1 : ¬ y.2 < x.2 := fun q => h1 (.inr ⟨e3.symm, q⟩)
    have b2 : ¬ z.2 < y.2 := fun q => h2 (.inr ⟨e.trans e3, q⟩)
    omega
theorem swo_si {α : Type} (k : α → Str × Int) : Swo fun x y => lexSI (k x) (k y) :=
  ⟨fun x y h => decide_eq_false (SI.asym (of_decide_eq_true h)), fun x y z h1 h2 => decide_eq_false (SI.ntr (of_decide_eq_false h1) (of_decide_eq_false h2))⟩
/-- a tuple of a text and an int, as the heap has it -/
def TxI (h : Heap) (v : Value) (k : Str × Int) : Prop := ∃ a o t u n, v = .ref a ∧ h.get? a = some o ∧ o.cls = .type "tuple" ∧ o.data = .seq #[.str k.1 t, .int k.2 u] n
theorem TxI.on {h h' : Heap} {v : Value} {k : Str × Int} (x : TxI h v k) (kp : ∀ b o, h.get? b = some o → o.cls = .type "tuple" → h'.get? b = some o) : TxI h' v k := by
  obtain ⟨a, o, t, u, n, h1, h2, h3, h4⟩ := x
  exact ⟨a, o, t, u, n, h1, kp a o h2 h3, h3, h4⟩
theorem txi_firsts {h : Heap} {k : Value → Str × Int} : ∀ {vs : List Value}, (∀ v ∈ vs, TxI h v (k v)) → ∃ fs : List Value, PySem.W.KatTups h vs fs ∧ fs.length = vs.length ∧ ∀ f ∈ fs, ∃ x t, f = Value.str x t
  | [], _ => ⟨[], .nil, rfl, fun f m => by cases m⟩
  | v :: vs, hp => by
    obtain ⟨fs, g1, g2, g3⟩ := txi_firsts (vs := vs) fun u m => hp u (List.mem_cons_of_mem _ m)
    obtain ⟨a, o, t, u, n, e, ho, hc, hd⟩ := hp v (List.mem_cons_self ..)
    have e1 := e
    subst e1
    refine ⟨.str (k (.ref a)).1 t :: fs, .cons ho hc hd rfl g1, congrArg (· + 1) g2, fun f m => ?_⟩
    rcases List.mem_cons.mp m with z | z
    · exact ⟨_, t, z⟩
    · exact g3 f z
section
variable {prog : Program} {w : World} {A : Around} {E : Value → Shared → Prop} {s : Shared}
theorem txi_cmp {vs : List Value} {k : Value → Str × Int} (hp : ∀ v ∈ vs, TxI s.heap v (k v)) : Cmp prog w A s (tuples' true) (fun p => p.1 ∈ vs) (lt2 fun v u => lexSI (k v) (k u)) := by
  intro p q m1 m2
  have x1 := hp _ m1
  have x2 := hp _ m2
  show wpAny (model prog w) A (keyLt' (tuples' true) p.1 q.1) (fun r s' => s' = s ∧ r = lexSI (k p.1) (k q.1)) (fun _ _ => False) s
  generalize k p.1 = a at x1 ⊢
  generalize k q.1 = b at x2 ⊢
  obtain ⟨a1, o1, t1, u1, n1, e1, ho1, _, hd1⟩ := x1
  obtain ⟨a2, o2, t2, u2, n2, e2, ho2, _, hd2⟩ := x2
  rw [e1, e2]
  refine PySem.W.kat_lt ho1 hd1 ho2 hd2 (show PySem.W.KatLex prog w A true (decide (2 < 2)) _ [(.str a.1 t1, .str b.1 t2), (.int a.2 u1, .int b.2 u2)] 0 s from ?_)
  refine PySem.W.kat_cons (SeqAt.EqAt.str_str a.1 t1 b.1 t2 prog w _ _ (PySem.W.kat_go (fun c => ?_) (fun c => ?_)))
  · have ec : a.1 = b.1 := by simpa using c
    refine PySem.W.kat_yes (PySem.W.kat_cons (SeqAt.EqAt.int_int a.2 u1 b.2 u2 prog w _ _ (PySem.W.kat_go (fun d => ?_) (fun d => ?_))))
    · have ed : a.2 = b.2 := by simpa using d
      have no : lexSI a b = false := decide_eq_false fun z => by
        rcases z with z | ⟨_, z⟩
        · rw [ec] at z; exact List.lt_irrefl _ z
        · omega
      exact PySem.W.kat_yes (PySem.W.kat_nil ⟨rfl, no.symm⟩)
    · have same : lexSI a b = decide (a.2 < b.2) := decide_eq_decide.mpr ⟨fun z => by
        rcases z with z | ⟨_, z⟩
        · rw [ec] at z; exact absurd z (List.lt_irrefl _)
        · exact z, fun z => .inr ⟨ec, z⟩⟩
      refine PySem.W.kat_no (PySem.W.kat_one _ _ (PyProof.Rows.lt_int ?_))
      exact (show s = s ∧ decide (a.2 < b.2) = lexSI a b from ⟨rfl, same.symm⟩)
  · have ec : ¬ a.1 = b.1 := by simpa using c
    have same : lexSI a b = decide (a.1.cps.toList < b.1.cps.toList) := decide_eq_decide.mpr ⟨fun z => by
      rcases z with z | ⟨z, _⟩
      · exact z
      · exact absurd z ec, .inl⟩
    exact PySem.W.kat_no (oneLt_str ⟨rfl, same.symm⟩)
theorem txi_sortable {a : Addr} {vs : List Value} {k : Value → Str × Int} (h0 : 0 < vs.length) (hp : ∀ v ∈ vs, TxI s.heap v (k v)) (ha : ∀ o, s.heap.get? a = some o → o.cls ≠ .type "tuple") : SortableO prog w A s a vs fun v u => lexSI (k v) (k u) := by
  intro h2 keep
  have hq : ∀ v ∈ vs, TxI h2 v (k v) := fun v m => (hp v m).on fun b o e c => keep b o (fun z => ha o (by rw [← z]; exact e) c) e
  obtain ⟨fs, g1, g2, g3⟩ := txi_firsts hq
  refine ⟨tuples' true, fun Q E yes => PySem.W.kat_kind (T := .type "str") g1 (by omega) (fun f m => ?_) (by rfl) ?_, txi_cmp hq⟩
  · obtain ⟨x, t, e⟩ := g3 f m
    rw [e]
    exact PySem.W.Looks.now
  · rw [show (Value.type "str" != Value.type "tuple") = true by first | decide +kernel | rfl]
    exact yes
end
/-- sorted(xs), xs a list of pairs (text, int) -/
def rSortedSI (K : PySem.W.Frag) : List V → Hp → VK → Prop := fun vs H Q => ∃ (a : Addr) (xs : List V) (k : V → Str × Int), vs = [V.ref a] ∧ SqL K H a xs ∧ (∀ x ∈ xs, ∃ t, x = V.ref t ∧ H t = some (.tup [.str (k x).1, .int (k x).2])) ∧
  ∀ ys p, Srtd (fun x y => lexSI (k x) (k y)) ys → Stb (fun x y => lexSI (k x) (k y)) ys xs → H p = none → Q (.ref p) (upd H p (.lst ys))
theorem cr_sortedSI {X : Cx} : CallR X (.builtin "sorted") (rSortedSI X.K) := by
  intro pins s σ H vs us Q I r h
  obtain ⟨a, xs, k, e0, hs, hx, q⟩ := h
  subst e0
  obtain ⟨its, rv, hl, hz⟩ := I.list hs
  obtain ⟨u, eu, ru⟩ := vals1 r
  subst eu
  obtain rfl : u = Value.ref a := ru
  obtain ⟨e1, e2⟩ := refs_back rv fun x m => (hx x m).imp fun t z => z.1
  have hk : ∀ v ∈ its, TxI s.heap v (k (backV v)) := fun v hv => by
    obtain ⟨t, ev⟩ := e2 v hv
    subst ev
    obtain ⟨t2, e, ht⟩ := hx (V.ref t) (by rw [e1]; exact List.mem_map.mpr ⟨_, hv, rfl⟩)
    cases e
    obtain ⟨_, its2, r2, o, ho, hc, n, hd⟩ := I.hok _ _ ht
    obtain ⟨u1, u2, e3, ⟨t1, ri⟩, ⟨t2, rj⟩⟩ := vals2 r2
    subst e3 ri rj
    exact ⟨t, o, t1, t2, n, rfl, ho, hc, hd⟩
  have hlen := rv.length
  refine sorted_ord (swo_si fun u => k (backV u)) hl.isList (by rw [← hlen]; exact hz) (fun h2 h1 c hc kk => ?_) fun out g1 g2 => ?_
  · refine txi_sortable (s := { s with heap := h1 }) (by omega) (fun v m => (hk v m).on fun b o e _ => (kk b o e).2) fun o e z => ?_
    have e' : some o = some (seqObj "list" its.toArray 0) := e.symm.trans hc
    cases e'
    exact absurd (Value.type.inj z) (by decide)
  · have h3 : ∀ u ∈ out, ∃ a, u = Value.ref a := fun u hu => e2 u (g2.perm.mem_iff.mp hu)
    obtain ⟨n, hn⟩ := sortedAll_at s.heap its out.toArray
    have hb : Stb (fun x y => lexSI (k x) (k y)) (out.map backV) xs := by
      rw [e1]
      exact Stb.map (swo_si k) backV g2
    refine ⟨.ref (s.heap.objs.size + 1), upd H (s.heap.objs.size + 1) (.lst (out.map backV)), I.laid (t' := s.toks) (fun b o e => sortedAll_old e) (Nat.le_succ _) ⟨?_, out, n, vals_back h3, hn⟩, rfl, q _ _ (srtd_map g1) hb (I.hok.fresh (Nat.le_succ _))⟩
    rw [hb.len]
    exact hz
/-! two sorted orders of the same pairs are one -/
theorem eqv_si {x y : Str × Int} : eqv lexSI x y = decide (y = x) := by
  by_cases h : y = x
  · subst h
    rw [decide_eq_true rfl]
    exact eqv_iff.mpr ⟨decide_eq_false fun z => SI.asym z z, decide_eq_false fun z => SI.asym z z⟩
  · rw [decide_eq_false h]
    cases e : eqv lexSI x y with
    | false => rfl
    | true =>
      obtain ⟨h1, h2⟩ := eqv_iff.mp e
      exact absurd (SI.tot (of_decide_eq_false h2) (of_decide_eq_false h1)) h
theorem filt_perm {α : Type} [DecidableEq α] (x : α) {l m : List α} (h : l.Perm m) : l.filter (fun y => decide (y = x)) = m.filter fun y => decide (y = x) := by
  have go : ∀ l : List α, l.filter (fun y => decide (y = x)) = List.replicate (l.filter fun y => decide (y = x)).length x := fun l => by
    refine List.eq_replicate_iff.mpr ⟨rfl, fun b hb => ?_⟩
    exact of_decide_eq_true (List.mem_filter.mp hb).2
  rw [go l, go m, (h.filter _).length_eq]
theorem si_uniq {l m : List (Str × Int)} (h1 : Srtd lexSI l) (h2 : Srtd lexSI m) (h : l.Perm m) : l = m :=
  stb_uniq (swo_si id) h1 h2 ⟨h, fun x => by
    have e : eqv lexSI x = fun y => decide (y = x) := funext fun y => eqv_si
    show l.filter (eqv lexSI x) = m.filter (eqv lexSI x)
    rw [e]
    exact filt_perm x h⟩
/-! sorted(d), d a dict with int keys, any number of them -/
theorem cr_sortedKI {X : Cx} (hcalm : X.calm = true) : CallR X (.builtin "sorted") (fun xs H Q => ∃ (a : Addr) (kvs : List (Key × V)) (ks : List Int), xs = [.ref a] ∧ H a = some (.dK kvs) ∧ kvs.map (·.1) = ks.map Sum.inl ∧ ks.length ≤ 100000 ∧
    ∀ (ys : List Int) (p : Addr), ys.Perm ks → ys.Pairwise (· ≤ ·) → H p = none → Q (.ref p) (upd H p (.lst (ys.map V.int)))) := by
  intro pins s σ H xs us Q I r h
  obtain ⟨a, kvs, ks, e0, hd0, hks, hmany, q⟩ := h
  subst e0
  have hd : Rd H a (.dK kvs) := .inl hd0
  obtain ⟨u, eu, rx⟩ := vals1 r
  subst eu
  cases rx
  obtain ⟨z, lo, vs, rel, dd⟩ := dk_rd I.hok hd
  obtain ⟨ep, hat⟩ := dd.dictAt
  have hkeys : vs.map (·.1) = ks.map Sum.inl := Eq.trans rel.keys.symm hks
  have hl : vs.length = ks.length := by simpa using congrArg List.length hkeys
  have hbig : vs.length ≤ sizeLine := sz (by omega)
  refine Calls.call_function_entry kind_sorted plain_sorted entry_sorted (args_sorted1 _) ?_
  unfold Builtin.«sorted»
  refine wpAny_bind (m := checkCount "sorted" 1 1 _) (wpAny_pure (wpAny_bind (PySem.W.kdu_collect (A := X.A.in1) (PySem.W.kdl_dict (knd := mixKind X.prog X.w) (kvs := vs) (ep := ep) lo) (I.ok.hd hcalm) hat hbig fun h' tk acc hk hacc => ?_)))
  have hal : acc.toList.length = ks.length := (Array.length_toList).trans (hacc.1.trans hl)
  have hS : IntsAre acc.toList ks := ints_each hal fun j v e => by
    obtain ⟨k, x, e1, e2⟩ := hacc.2 j v ((Array.getElem?_toList).symm.trans e)
    have e3 : (ks.map Sum.inl)[j]? = some k := by
      rw [← hkeys, List.getElem?_map, e1]
      rfl
    rw [List.getElem?_map] at e3
    obtain ⟨y, e4, e5⟩ := Option.map_eq_some_iff.mp e3
    subst e5
    rcases keyIs_shape (show keyIs (Sum.inl y) v = true from e2) with ⟨i, t, ek, ev⟩ | ⟨z, t, ek, ev⟩
    · cases ek
      exact ⟨y, t, e4, ev⟩
    · cases ek
  have I1 : Inv X pins σ H { s with heap := h', toks := tk } := I.kept hk
  refine wpAny_bind (wpAny_newList ?_ (by rw [hal]; exact sz (by omega)))
  have hoL : (h'.push (seqObj "list" acc.toList.toArray 0)).get? h'.objs.size = some (seqObj "list" acc.toList.toArray 0) := by exact Heap.get?_push_size _ rfl
  show wpAny _ _ _ _ _ { s with heap := h'.push (seqObj "list" acc.toList.toArray 0), toks := tk }
  have go := fun (R : PySem.Fin → Shared → Prop) (E : Value → Shared → Prop) hR => list_sort_ord (prog := X.prog) (w := X.w) (A := X.A.in1.in1) (E := E) (R := R) (s := { s with heap := h'.push (seqObj "list" acc.toList.toArray 0), toks := tk }) swo_int hoL (by rw [hal]; exact sz (by omega)) (fun h2 => ints_sortable hS h2) hR
  refine wpAny_bind (wpAny_holding (wpAny_call_entry slot_list_sort ⟨_, hoL, rfl⟩ entry_list_sort (go _ _ fun out g1 g2 => ⟨_, rfl, ?_⟩) (args_list_sort _)))
  obtain ⟨f1, f2, f3⟩ := ints_out hS g1 g2
  obtain ⟨e', he'⟩ := PyProof.Rows.sortedHeap_at (vs := acc.toList) (out := out.toArray) hoL
  refine wpAny_pure ⟨_, rfl, .ref h'.objs.size, upd H h'.objs.size (.lst ((out.map iv).map V.int)), I1.laid (t' := tk) (fun b u e => ?_) (Nat.le_refl _)
    (show ObjOk X.prog X.w _ _ _ (.lst ((out.map iv).map V.int)) from ⟨?_, out, e', vals_of_ints f1, he'⟩), rfl, q _ _ f2 f3 (I1.hok.fresh (Nat.le_refl _))⟩
  · have hb : b < h'.objs.size := Heap.lt_size e
    rw [PyProof.Rows.sortedHeap_old (Nat.ne_of_lt hb) (by rw [size_push']; exact Nat.lt_succ_of_lt hb)]
    exact Heap.get?_push_of_some _ e
  · rw [List.length_map, f2.length_eq]
    exact sz (by omega)
end K21
/-! ## K21Img -/
set_option Elab.async false
set_option linter.all false
set_option maxRecDepth 100000
set_option maxHeartbeats 4000000
namespace K21
open PySem PySem.Spec PyProof.Rows L2
/-! images: cells and parts -/
abbrev Cell := Nat × Int
abbrev Part := Nat × List Int
def cellsOf : Nat → List Int → List Cell
  | _, [] => []
  | p, w :: r => (p, w) :: cellsOf (p + 1) r
def cellsM (ps : List Part) : List Cell := ps.flatMap fun d => cellsOf d.1 d.2
def AscC (cs : List Cell) : Prop := cs.Pairwise fun a b => a.1 < b.1
def PartOk (d : Part) : Prop := d.2 ≠ [] ∧ d.1 + d.2.length ≤ 960 ∧ ∀ w ∈ d.2, 0 ≤ w ∧ w < 65536
theorem cellsOf_len : ∀ (p : Nat) (ws : List Int), (cellsOf p ws).length = ws.length
  | _, [] => rfl
  | p, w :: r => congrArg (· + 1) (cellsOf_len (p + 1) r)
theorem cellsOf_at : ∀ (p : Nat) (ws : List Int) (i : Nat), (cellsOf p ws)[i]? = ws[i]?.map fun w => (p + i, w)
  | _, [], i => by simp [cellsOf]
  | p, w :: r, 0 => rfl
  | p, w :: r, i + 1 => by
    show (cellsOf (p + 1) r)[i]? = r[i]?.map _
    rw [cellsOf_at (p + 1) r i]
    have e : p + 1 + i = p + (i + 1) := by omega
    rw [e]
theorem cellsOf_app : ∀ (p : Nat) (a b : List Int), cellsOf p (a ++ b) = cellsOf p a ++ cellsOf (p + a.length) b
  | p, [], b => rfl
  | p, w :: r, b => by
    show (p, w) :: cellsOf (p + 1) (r ++ b) = (p, w) :: (cellsOf (p + 1) r ++ cellsOf (p + (r.length + 1)) b)
    rw [cellsOf_app (p + 1) r b]
    have e : p + 1 + r.length = p + (r.length + 1) := by omega
    rw [e]
theorem cellsM_app (a b : List Part) : cellsM (a ++ b) = cellsM a ++ cellsM b := List.flatMap_append
theorem cellsM_one (d : Part) : cellsM [d] = cellsOf d.1 d.2 := by simp [cellsM]
theorem cellsM_cons (d : Part) (ds : List Part) : cellsM (d :: ds) = cellsOf d.1 d.2 ++ cellsM ds := rfl
/-- one cell more -/
def addCell (ds : List Part) (c : Cell) : List Part := match ds.getLast? with
  | none => [(c.1, [c.2])]
  | some d => if d.1 + d.2.length = c.1 then ds.dropLast ++ [(d.1, d.2 ++ [c.2])] else ds ++ [(c.1, [c.2])]
def mergeM (cs : List Cell) : List Part := cs.foldl addCell []
theorem addCell_nil (c : Cell) : addCell [] c = [(c.1, [c.2])] := rfl
theorem addCell_snoc (ds : List Part) (d : Part) (c : Cell) : addCell (ds ++ [d]) c = if d.1 + d.2.length = c.1 then ds ++ [(d.1, d.2 ++ [c.2])] else ds ++ [d] ++ [(c.1, [c.2])] := by
  unfold addCell
  rw [List.getLast?_concat, List.dropLast_concat]
theorem snoc_or {α : Type} : ∀ l : List α, l = [] ∨ ∃ a x, l = a ++ [x]
  | [] => .inl rfl
  | x :: l => .inr ⟨(x :: l).dropLast, (x :: l).getLast (by simp), (List.dropLast_concat_getLast (by simp)).symm⟩
theorem cells_add (ds : List Part) (c : Cell) : cellsM (addCell ds c) = cellsM ds ++ [c] := by
  rcases snoc_or ds with rfl | ⟨a, d, rfl⟩
  · rfl
  · rw [addCell_snoc]
    split
    · rename_i h
      rw [cellsM_app, cellsM_app, cellsM_one, cellsM_one, cellsOf_app, h, List.append_assoc]
      rfl
    · rw [cellsM_app, cellsM_one]
      rfl
theorem mergeM_snoc (cs : List Cell) (c : Cell) : mergeM (cs ++ [c]) = addCell (mergeM cs) c := by
  unfold mergeM
  rw [List.foldl_append]
  rfl
theorem cells_merge (cs : List Cell) : cellsM (mergeM cs) = cs := by
  have go : ∀ (cs : List Cell) (ds : List Part), cellsM (cs.foldl addCell ds) = cellsM ds ++ cs := fun cs => by
    induction cs with
    | nil => intro ds; simp
    | cons c cs ih =>
      intro ds
      show cellsM (cs.foldl addCell (addCell ds c)) = _
      rw [ih, cells_add, List.append_assoc]
      rfl
  exact go cs []
theorem merge_ne (cs : List Cell) : ∀ d ∈ mergeM cs, d.2 ≠ [] := by
  have go : ∀ (cs : List Cell) (ds : List Part), (∀ d ∈ ds, d.2 ≠ []) → ∀ d ∈ cs.foldl addCell ds, d.2 ≠ [] := fun cs => by
    induction cs with
    | nil => intro ds h; exact h
    | cons c cs ih =>
      intro ds h
      refine ih (addCell ds c) fun d hd => ?_
      rcases snoc_or ds with rfl | ⟨a, e, rfl⟩
      · rw [addCell_nil, List.mem_singleton] at hd
        rw [hd]; simp
      · rw [addCell_snoc] at hd
        split at hd
        · rcases List.mem_append.mp hd with m | m
          · exact h d (List.mem_append_left _ m)
          · rw [List.mem_singleton] at m
            rw [m]; simp
        · rcases List.mem_append.mp hd with m | m
          · exact h d m
          · rw [List.mem_singleton] at m
            rw [m]; simp
  exact go cs [] fun d h => by cases h
theorem cells_count (ds : List Part) : (ds.map fun d => d.2.length).sum = (cellsM ds).length := by
  induction ds with
  | nil => rfl
  | cons d ds ih => rw [cellsM_cons, List.length_append, cellsOf_len, List.map_cons, List.sum_cons, ih]
/-- the word at a place -/
def lookC (cs : List Cell) (q : Nat) : Option Int := (cs.find? fun c => decide (c.1 = q)).map (·.2)
theorem lookC_of : ∀ (p : Nat) (ws : List Int) (q : Nat), lookC (cellsOf p ws) q = if p ≤ q ∧ q < p + ws.length then ws[q - p]? else none
  | p, [], q => by
    rw [if_neg (by simp)]
    rfl
  | p, w :: r, q => by
    unfold lookC
    rw [cellsOf, List.find?_cons]
    by_cases h : p = q
    · subst h
      simp
    · rw [decide_eq_false h]
      show lookC (cellsOf (p + 1) r) q = _
      rw [lookC_of (p + 1) r q]
      by_cases h2 : p ≤ q ∧ q < p + (r.length + 1)
      · rw [if_pos (show p + 1 ≤ q ∧ q < p + 1 + r.length by omega), if_pos (show p ≤ q ∧ q < p + (w :: r).length from h2)]
        have e : q - p = (q - (p + 1)) + 1 := by omega
        rw [e, List.getElem?_cons_succ]
      · rw [if_neg (show ¬ (p + 1 ≤ q ∧ q < p + 1 + r.length) by omega), if_neg (show ¬ (p ≤ q ∧ q < p + (w :: r).length) from h2)]
theorem lookC_cons (d : Part) (ds : List Part) (q : Nat) : lookC (cellsM (d :: ds)) q = if d.1 ≤ q ∧ q < d.1 + d.2.length then d.2[q - d.1]? else lookC (cellsM ds) q := by
  have h := lookC_of d.1 d.2 q
  rw [cellsM_cons]
  unfold lookC at h ⊢
  rw [List.find?_append]
  by_cases h2 : d.1 ≤ q ∧ q < d.1 + d.2.length
  · rw [if_pos h2] at h ⊢
    have e : d.2[q - d.1]? = some (d.2[q - d.1]'(by omega)) := List.getElem?_eq_getElem (by omega)
    rw [e] at h ⊢
    obtain ⟨c, h3, h4⟩ := Option.map_eq_some_iff.mp h
    rw [h3]
    exact congrArg some h4
  · rw [if_neg h2] at h ⊢
    rw [Option.map_eq_none_iff.mp h]
    rfl
/-! rules with the fixed part named -/
theorem ixtK {X : Cx} {K : PySem.W.Frag} (h : X.K = K) : IxR X (rIxT K) := by
  subst h
  exact ix_tup
theorem ixlK {X : Cx} {K : PySem.W.Frag} (h : X.K = K) : IxR X (rIxL K) := by
  subst h
  exact ix_list
theorem clenK {X : Cx} {K : PySem.W.Frag} (h : X.K = K) : CallR X (.builtin "len") (fun xs H Q => ∃ p ys, xs = [V.ref p] ∧ (SqL K H p ys ∨ SqT K H p ys) ∧ Q (.int (ys.length : Nat)) H) := by
  subst h
  exact call_len_seq
theorem ctupK {X : Cx} {K : PySem.W.Frag} (h : X.K = K) : CallR X (.type "tuple") (fun xs H Q => ∃ p ys, xs = [.ref p] ∧ ((SqL K H p ys ∧ ∀ l, H l = none → Q (.ref l) (upd H l (.tup ys))) ∨ (SqT K H p ys ∧ Q (.ref p) H))) := by
  subst h
  exact call_tuple_of
theorem clstK {X : Cx} {K : PySem.W.Frag} (h : X.K = K) : CallR X (.type "list") (fun xs H Q => ∃ p ys, xs = [.ref p] ∧ (SqL K H p ys ∨ SqT K H p ys) ∧ ∀ l, H l = none → Q (.ref l) (upd H l (.lst ys))) := by
  subst h
  exact call_list_of
/-! on the heap -/
def CellV (y : V) (c : Cell) (H : Hp) : Prop := ∃ a, y = .ref a ∧ H a = some (.tup [.int (c.1 : Int), .int c.2])
theorem CellV.keep {Sx : List Addr} {H H' : Hp} (n : NoTup Sx H) (k : Keep Sx H H') {y : V} {c : Cell} (h : CellV y c H) : CellV y c H' := by
  obtain ⟨a, e, h1⟩ := h
  exact ⟨a, e, k _ _ (n.out h1) h1⟩
/-- a part with its row as a tuple -/
def PartT (y : V) (d : Part) (H : Hp) : Prop := ∃ a b, y = .ref a ∧ H a = some (.tup [.int (d.1 : Int), .ref b]) ∧ H b = some (.tup (d.2.map V.int))
theorem PartT.keep {Sx : List Addr} {H H' : Hp} (n : NoTup Sx H) (k : Keep Sx H H') {y : V} {d : Part} (h : PartT y d H) : PartT y d H' := by
  obtain ⟨a, b, e, h1, h2⟩ := h
  exact ⟨a, b, e, k _ _ (n.out h1) h1, k _ _ (n.out h2) h2⟩
def PartsT (H : Hp) (p : Addr) (ds : List Part) : Prop := ∃ ys, H p = some (.tup ys) ∧ Each PartT H ys ds
theorem PartsT.keep {Sx : List Addr} {H H' : Hp} (n : NoTup Sx H) (k : Keep Sx H H') {p : Addr} {ds : List Part} (h : PartsT H p ds) : PartsT H' p ds := by
  obtain ⟨ys, e, hE⟩ := h
  exact ⟨ys, k _ _ (n.out e) e, hE.imp fun y d r => r.keep n k⟩
def ImgAt (C : Addr) (H : Hp) (x : Addr) (ds : List Part) : Prop := ∃ dx p, H x = some (.ins C dx [("own_parts", .ref p)]) ∧ PartsT H p ds
theorem ImgAt.same {C : Addr} {H H' : Hp} (s : Same H H') {x : Addr} {ds : List Part} (h : ImgAt C H x ds) : ImgAt C H' x ds := by
  obtain ⟨dx, p, e, h⟩ := h
  exact ⟨dx, p, s _ _ e, h.keep NoTup.nil (Keep.of_same s)⟩
def kP (H : Hp) : V → Int × Int
  | .ref a => match H a with
    | some (.tup [.int i, .int j]) => (i, j)
    | _ => (0, 0)
  | _ => (0, 0)
theorem kP_cell {H : Hp} {y : V} {c : Cell} (h : CellV y c H) : kP H y = ((c.1 : Int), c.2) := by
  obtain ⟨a, rfl, e⟩ := h
  unfold kP
  dsimp only
  rw [e]
theorem cells_srtd {H : Hp} {xs : List V} {cs : List Cell} (h : Each CellV H xs cs) (asc : AscC cs) : SrtO.Srtd (ltP (kP H)) xs := by
  refine List.pairwise_iff_getElem.mpr fun i j hi hj hij => ?_
  have hl := h.1
  have h1 := kP_cell (h.2 i xs[i] (cs[i]'(by omega)) (List.getElem?_eq_getElem hi) (List.getElem?_eq_getElem (by omega)))
  have h2 := kP_cell (h.2 j xs[j] (cs[j]'(by omega)) (List.getElem?_eq_getElem hj) (List.getElem?_eq_getElem (by omega)))
  have h3 := (List.pairwise_iff_getElem.mp asc) i j (by omega) (by omega) hij
  show SrtO.lexB (kP H xs[j]) (kP H xs[i]) = false
  rw [h1, h2]
  refine SrtO.lexB_no.mpr ?_
  dsimp only
  omega
theorem cells_sorted {H : Hp} {xs ys : List V} {cs : List Cell} (h : Each CellV H xs cs) (asc : AscC cs) (h1 : SrtO.Srtd (ltP (kP H)) ys) (h2 : SrtO.Stb (ltP (kP H)) ys xs) : ys = xs := SrtO.stb_uniq (ltP_swo (kP H)) h1 (cells_srtd h asc) h2
theorem Each.app {α : Type} {R : V → α → Hp → Prop} {H : Hp} {xs ys : List V} {as bs : List α} (h1 : Each R H xs as) (h2 : Each R H ys bs) : Each R H (xs ++ ys) (as ++ bs) := by
  refine ⟨by rw [List.length_append, List.length_append, h1.1, h2.1], fun i y d a b => ?_⟩
  by_cases hi : i < xs.length
  · rw [List.getElem?_append_left hi] at a
    rw [List.getElem?_append_left (by rw [← h1.1]; exact hi)] at b
    exact h1.2 i y d a b
  · rw [List.getElem?_append_right (by omega)] at a
    rw [List.getElem?_append_right (by rw [← h1.1]; omega), ← h1.1] at b
    exact h2.2 _ y d a b
theorem Each.all {α : Type} {R : V → α → Hp → Prop} {H : Hp} {xs : List V} {as : List α} (h : Each R H xs as) : ∀ x ∈ xs, ∃ a ∈ as, R x a H := fun x hx => by
  obtain ⟨i, hi, e⟩ := List.mem_iff_getElem.mp hx
  have hl := h.1
  exact ⟨as[i]'(by omega), List.getElem_mem _, h.2 i x _ (by rw [← e, List.getElem?_eq_getElem]) (List.getElem?_eq_getElem (by omega))⟩
end K21
/-! ## WP -/
set_option Elab.async false
set_option linter.all false
set_option maxRecDepth 100000
set_option maxHeartbeats 4000000
namespace K21
open PySem PySem.Spec PyProof.Rows L2 C8
local macro_rules | `(tactic| walk_at "adv") => `(tactic| repeat (first | refine ⟨_, rfl, ?_⟩ | refine ⟨rfl, ?_⟩ | refine ⟨_, _, rfl, rfl, ?_⟩ | refine iteT ?_ | refine iteF ?_))

def CellI (L Fd : Addr) (ps : List Part) (H1 : Hp) (i : Nat) (σ : L2.St) (H : Hp) : Prop := ∃ (y2 y3 : Option V) (xs : List V), σ = [some (.ref L), some (.ref Fd), y2, y3, none, none] ∧ Keep [Fd] H1 H ∧ H Fd = some (.lst xs) ∧ Each CellV H xs (cellsM (ps.take i))
theorem cells_take (ps : List Part) (i : Nat) (h : i < ps.length) : cellsM (ps.take (i + 1)) = cellsM (ps.take i) ++ cellsOf ps[i].1 ps[i].2 := by
  rw [List.take_succ_eq_append_getElem h, cellsM_app, cellsM_one]
theorem cells_take_len (ps : List Part) (i : Nat) : (cellsM (ps.take i)).length ≤ (cellsM ps).length := by
  have h : cellsM (ps.take i) ++ cellsM (ps.drop i) = cellsM ps := by rw [← cellsM_app, List.take_append_drop]
  rw [← h, List.length_append]
  omega
theorem cut_tail (xs : List V) : cutV xs (some 1) none = xs.drop 1 := by
  unfold cutV
  rw [show (some (1 : Int)) = some ((1 : Nat) : Int) from rfl, HT.sIx_nat, HT.sIx_none]
  cases xs with
  | nil => rfl
  | cons x l => simp

section
variable {P : Program} {w : World} {K : PySem.W.Frag} {mg : Str → Option Value} {base : Heap}
abbrev N_is_image_part : List Str := ["value", "word"]
theorem sc_is_image_part : FnScope N_is_image_part ["value"] (defScope s_is_image_part) := ⟨rfl, rfl, rfl, by decide +kernel, rfl, by decide +kernel, by decide +kernel⟩
def sp_is_image_part (K : PySem.W.Frag) : Sp := fun vs H Q _ => ∃ (y : V) (F : Addr → Prop) (d : Part), vs = [y] ∧ PartV F y d H ∧ PartOk d ∧ ∀ H', Same H H' → Q (.bl true) H'
theorem cal_is_image_part (T : Tx w K mg) : C8.Cal P w K mg base 4 "is_image_part" (sp_is_image_part K) [] := by
  have c_is_count := cal_is_count (P := P) (base := base) T
  have c_is_list := cal_is_list (P := P) (base := base) T
  have c_is_word := cal_is_word (P := P) (base := base) T
  refine cal_of (st := s_is_image_part) (ps := ["value"]) T.d_is_image_part T.m_is_image_part sc_is_image_part (fun _ _ _ _ _ _ us hl => match us, hl with | [_], _ => rfl) (fun vs H Q E h => ?_) (fun cdv A outer s H vs Q E hr h => ?_)
  · obtain ⟨y, F, d, rfl, _⟩ := h
    rfl
  · obtain ⟨_, F, d, rfl, ⟨a, b, rfl, ea, _, eb⟩, ⟨h1, h2, h3⟩, q⟩ := h
    refine ⟨_, (pss_cons (ps_if (PW.pt (pw_or (pt_not (pt_val (pe_callB call_isi (by rfl) T.f_isinstance (by decide +kernel) (pa_cons (pv 0) (pa_cons (pe_bltn (v := .ty "tuple") (by rfl) T.f_tuple (by decide +kernel) rfl) pa_nil))))) (pw_or (pt_cmpR op_ne (pe_callB call_len_seq (by rfl) T.f_len (by decide +kernel) (pa_cons (pv 0) pa_nil)) pe_int (nomark _)) (pw_or (pt_not (pt_val (pe_c c_is_count hr (by decide) (by rfl) (pa_cons (pe_ix ix_tup (pv 0) pe_int (fun _ _ => rfl)) pa_nil)))) (pw_or1 (pt_not (pt_val (pe_c c_is_list hr (by decide) (by rfl) (pa_cons (pe_ix ix_tup (pv 0) pe_int (fun _ _ => rfl)) pa_nil)))))))))
        (pss_one (ps_ret pe_bl))
        pss_nil)
      (pss_cons (ps_if (PW.pt (pw_or (pt_cmpR op_eq (pe_callB call_len_seq (by rfl) T.f_len (by decide +kernel) (pa_cons (pe_ix ix_tup (pv 0) pe_int (fun _ _ => rfl)) pa_nil)) pe_int (nomark _)) (pw_or (pt_cmpR op_ge (pe_ix ix_tup (pv 0) pe_int (fun _ _ => rfl)) (pe_gc (by rfl) T.v_MEMORY_END) (nomark _)) (pw_or1 (pt_cmpR op_gt (pe_op op_add (pe_ix ix_tup (pv 0) pe_int (fun _ _ => rfl)) (pe_callB call_len_seq (by rfl) T.f_len (by decide +kernel) (pa_cons (pe_ix ix_tup (pv 0) pe_int (fun _ _ => rfl)) pa_nil))) (pe_gc (by rfl) T.v_MEMORY_END) (nomark _))))))
        (pss_one (ps_ret pe_bl))
        pss_nil)
      (pss_one (ps_ret (pe_callB (cr_all rfl) (by rfl) T.f_all (by decide +kernel) (pa_cons (pe_lc (own := [("word", 1)]) (g := gName 1) (tt := tYes) rfl sc_is_image_part.nd (pi_list (pe_ix ix_tup (pv 0) pe_int (fun _ _ => rfl))) (blkOk_by (own := [("word", 1)]) (N := N_is_image_part) (sc := defScope s_is_image_part) (by decide +kernel)) (fun _ _ _ _ _ => pg_name (i := 1) sc_is_image_part.nd rfl (Or.inl rfl)) (fun _ _ _ _ _ => pts_nil) (fun _ _ _ _ _ => (pe_c c_is_word hr (by decide) (by rfl) (pa_cons (pv 1) pa_nil)))) pa_nil)))))), ?_⟩
    have hT : SqT K H a [.int (d.1 : Int), .ref b] := .inl (.inl ea)
    have hS : SqL K H b (d.2.map V.int) := .inl (.inl eb)
    have hne : 0 < d.2.length := List.length_pos_iff.mpr h1
    refine ⟨_, rfl, _, _, _, _, _, rfl, .ty _, .base (.tup ea), kit_ty (a := "tuple") (b := "tuple") (r := true) (by decide +kernel), _, rfl, iteF ?_⟩
    refine ⟨_, rfl, a, _, rfl, .inr hT, rfl, _, rfl, iteNF rfl ?_⟩
    refine ⟨_, rfl, a, _, 0, .int (d.1 : Int), rfl, rfl, hT, atI_nat (j := 0) rfl, _, rfl, _, rfl, ?_⟩
    refine iteNF (by omega) ?_
    refine ⟨_, rfl, a, _, 1, .ref b, rfl, rfl, hT, atI_nat (j := 1) rfl, b, rfl, .inl (.base (.lst eb)), fun H1 s1 => ⟨_, rfl, iteF ?_⟩⟩
    have hT1 := SqT.same s1 hT
    have hS1 := s1.seq hS
    refine ⟨_, rfl, a, _, 1, .ref b, rfl, rfl, hT1, atI_nat (j := 1) rfl, b, _, rfl, .inl hS1, rfl, _, rfl, iteDF (fun z => by have := V.int.inj z; rw [List.length_map] at this; omega) ?_⟩
    refine ⟨_, rfl, a, _, 0, .int (d.1 : Int), rfl, rfl, hT1, atI_nat (j := 0) rfl, _, _, rfl, rfl, _, rfl, iteDF (by omega) ?_⟩
    refine ⟨_, rfl, a, _, 0, .int (d.1 : Int), rfl, rfl, hT1, atI_nat (j := 0) rfl, _, rfl, a, _, 1, .ref b, rfl, rfl, hT1, atI_nat (j := 1) rfl, b, _, rfl, .inl hS1, _, _, rfl, rfl, _, _, rfl, rfl, _, rfl, iteDF (by rw [List.length_map]; omega) ?_⟩
    refine ⟨_, rfl, a, _, 1, .ref b, rfl, rfl, hT1, atI_nat (j := 1) rfl, b, rfl, ⟨_, hS1⟩, fun D hD => ?_⟩
    refine lc_vals (walk_list (xs := d.2.map V.int)) hD (by rw [List.length_map]; omega) (fun _ => .bl true) (fun H2 s2 => s2.seq hS1) (fun i x H2 H3 C Cf hi s2 y k => ?_) (fun H2 s2 e2 => ?_)
    · obtain ⟨rfl, hx⟩ := y
      rw [List.getElem?_map] at hx
      obtain ⟨v, hv, rfl⟩ := Option.map_eq_some_iff.mp hx
      refine ⟨rfl, yes_in ⟨_, rfl, v, rfl, ?_⟩⟩
      rw [decide_eq_true (h3 v (List.mem_of_getElem? hv))]
      exact k _ (Same.refl _)
    · rw [all_true] at e2
      refine ⟨D, _, rfl, .inl (.inl e2), ?_⟩
      rw [all_rep]
      exact q _ (s1.trans s2)
abbrev N_cells_of_parts : List Str := ["parts", "found", "place", "row", "at", "word"]
theorem sc_cells_of_parts : FnScope N_cells_of_parts ["parts"] (defScope s_cells_of_parts) := ⟨rfl, rfl, rfl, by decide +kernel, rfl, by decide +kernel, by decide +kernel⟩
def sp_cells_of_parts (K : PySem.W.Frag) : Sp := fun vs H Q _ => ∃ (L : Addr) (ys : List V) (F : Addr → Prop) (ps : List Part), vs = [.ref L] ∧ H L = some (.lst ys) ∧ Each (PartV F) H ys ps ∧ AscC (cellsM ps) ∧ (cellsM ps).length ≤ 1000 ∧ ps.length ≤ 1000 ∧ ∀ H' D xs, Same H H' → H' D = some (.lst xs) → Each CellV H' xs (cellsM ps) → Q (.ref D) H'
theorem cal_cells_of_parts (T : Tx w K mg) : C8.Cal P w K mg base 1 "cells_of_parts" (sp_cells_of_parts K) [] := by
  refine cal_of (st := s_cells_of_parts) (ps := ["parts"]) T.d_cells_of_parts T.m_cells_of_parts sc_cells_of_parts (fun _ _ _ _ _ _ us hl => match us, hl with | [_], _ => rfl) (fun vs H Q E h => ?_) (fun cdv A outer s H vs Q E hr h => ?_)
  · obtain ⟨L, ys, F, ps, rfl, _⟩ := h
    rfl
  · obtain ⟨L, ys, F, ps, rfl, eL, hE, hasc, hlen, hpl, q⟩ := h
    refine ⟨_, (pss_cons (ps_set (i := 1) sc_cells_of_parts.nd rfl (Or.inl rfl) (pe_lst pa_nil))
      (pss_cons (ps_for PassesOwn.never rfl (pi_list (pv 0)) (pg_tup rfl (pgs_cons (pg_name (i := 2) sc_cells_of_parts.nd rfl (Or.inr rfl)) (pgs_cons (pg_name (i := 3) sc_cells_of_parts.nd rfl (Or.inl rfl)) pgs_nil)))
        (pss_one (ps_expr (pe_bm PySem.F.plainAttrs_list PySem.F.slot_list_extend PySem.F.type_list_extend mt_extend (pv 1) (pa_cons (pe_lc (own := [("at", 4), ("word", 5)]) (g := gTup K 2 (gCons (gName 4) (gCons (gName 5) (gNil)))) (tt := tYes) rfl sc_cells_of_parts.nd (pi_enum (by rfl) T.f_enumerate (pa_cons (pv 3) pa_nil)) (blkOk_by (own := [("at", 4), ("word", 5)]) (N := N_cells_of_parts) (sc := defScope s_cells_of_parts) (by decide +kernel)) (fun _ _ _ _ _ => pg_tup rfl (pgs_cons (pg_name (i := 4) sc_cells_of_parts.nd rfl (Or.inl rfl)) (pgs_cons (pg_name (i := 5) sc_cells_of_parts.nd rfl (Or.inl rfl)) pgs_nil))) (fun _ _ _ _ _ => pts_nil) (fun _ _ _ _ _ => (pe_tup (pa_cons (pe_op op_add (pv 2) (pv 4)) (pa_cons (pv 5) pa_nil))))) pa_nil)))))
      (pss_one (ps_ret (pe_callB cr_sortedPO (by rfl) T.f_sorted (by decide +kernel) (pa_cons (pv 1) pa_nil)))))), ?_⟩
    refine ⟨Nat.zero_le _, fun Fd nF => ?_⟩
    generalize hH : upd H Fd _ = H1
    have s1 := new_same hH nF
    have e1 : H1 Fd = some (.lst []) := new_at hH
    have hE1 : Each (PartV fun b => b ≠ Fd) H1 ys ps := hE.imp fun y d r => by
      obtain ⟨a, b, e, g1, _, g2⟩ := r
      exact ⟨a, b, e, s1 _ _ g1, ne_of_none g2 nF, s1 _ _ g2⟩
    have LF : L ≠ Fd := ne_of_none eL nF
    refine ⟨_, rfl, L, rfl, ⟨_, .inl (.inl (s1 _ _ eL))⟩, ?_⟩
    refine for_it (walk_list (xs := ys)) (CellI L Fd ps H1) ⟨none, none, [], rfl, Keep.refl _ _, e1, Each.nil⟩ (fun i σ H2 _ h => ?_) (fun i v σ H20 H2 hi h y => ?_) (fun σ H2 h => ?_)
    · obtain ⟨y2, y3, xs, _, k2, _⟩ := h
      exact .inl (.inl (k2.one LF (s1 _ _ eL)))
    · obtain ⟨y2, y3, xs, rfl, k2, e2, hX⟩ := h
      obtain ⟨rfl, hv⟩ := y
      have hi2 : i < ps.length := by rw [← hE1.1]; exact hi
      obtain ⟨a, b, rfl, ea, bF, eb⟩ := hE1.2 i v _ hv (List.getElem?_eq_getElem hi2)
      have ea2 := k2.one (ne_of ea e1 (by intro z; cases z)) ea
      have eb2 := k2.one bF eb
      have hin := cells_take ps i hi2
      have hrow : (cellsM (ps.take i)).length + (ps[i].2).length ≤ 1000 := by
        have h1 := congrArg List.length hin
        rw [List.length_append, cellsOf_len] at h1
        have h2 := cells_take_len ps (i + 1)
        omega
      have hxl := hX.1
      refine ⟨a, _, rfl, .inl (.inl ea2), rfl, _, _, rfl, _, _, rfl, rfl, ?_⟩
      refine ⟨_, rfl, .inl ⟨rfl, _, .inl (.inl e2)⟩, ?_⟩
      refine ⟨_, rfl, b, _, rfl, .inl (.inl eb2), fun D hD => ?_⟩
      refine lc_pure (walk_enum (xs := (ps[i].2).map V.int)) hD (by rw [List.length_map]; omega) (fun j y H => CellV y (ps[i].1 + j, (ps[i].2).getD j 0) H) (fun H3 s3 => .inl (.inl (s3 _ _ eb2))) (fun j y H3 H4 hl k h => h.keep (NoTup.one hl.choose_spec) k) (fun j x H3 H4 C Cf hj s3 hacc y k => ?_) (fun H3 zs s3 hl e3 hr => ?_)
      · obtain ⟨tt, v1, v2, rfl, nt, rfl, h1, h2⟩ := y
        obtain rfl := Option.some.inj h1
        have h2' : ((ps[i].2).map V.int)[j]? = some v2 := h2
        rw [List.getElem?_map] at h2'
        obtain ⟨wd, hw, rfl⟩ := Option.map_eq_some_iff.mp h2'
        have s4 : Same H3 (upd H3 tt (.tup [.int (j : Nat), .int wd])) := same_new nt
        refine ⟨tt, _, rfl, .inl (.inl upd_same), rfl, _, _, rfl, _, _, rfl, rfl, rfl, yes_in ?_⟩
        refine ⟨_, rfl, _, rfl, _, _, rfl, rfl, _, rfl, sz (by show 2 ≤ 1000000; decide), fun u nu => ?_⟩
        generalize hH : upd _ u _ = H5
        have s5 := new_same hH nu
        have e5 := new_at hH
        refine k _ H5 (s4.trans s5) ⟨u, rfl, ?_⟩
        rw [e5, List.getD_eq_getElem?_getD, hw]
        rfl
      · rw [List.length_map] at hl
        refine ⟨Fd, D, xs, zs, rfl, rfl, s3 _ _ e2, e3, sz (by rw [hxl, hl]; omega), ?_⟩
        generalize hH : upd _ Fd _ = H4
        have k4 : Keep [Fd] H3 H4 := by rw [← hH]; exact Keep.put (by simp)
        have e4 := new_at hH
        have n3 : NoTup [Fd] H3 := NoTup.one (s3 _ _ e2)
        refine ⟨_, _, _, rfl, k2.trans ((Keep.of_same s3).trans k4), e4, ?_⟩
        rw [hin]
        refine Each.app (hX.imp fun y d r => (r.keep NoTup.nil (Keep.of_same s3)).keep n3 k4) ⟨by rw [hl, cellsOf_len], fun j y c h1 h2 => ?_⟩
        rw [cellsOf_at] at h2
        obtain ⟨wd, hw, rfl⟩ := Option.map_eq_some_iff.mp h2
        have h5 := (hr j y h1).keep n3 k4
        rw [List.getD_eq_getElem?_getD, hw] at h5
        exact h5
    · obtain ⟨y2, y3, xs, rfl, k2, e2, hX⟩ := h
      rw [hE1.1, List.take_length] at hX
      refine ⟨_, rfl, Fd, xs, kP H2, rfl, .inl (.inl e2), fun x hx => ?_, fun zs p h1 h2 np => ?_⟩
      · obtain ⟨c, _, hc⟩ := hX.all x hx
        have hk := kP_cell hc
        obtain ⟨t, e, ht⟩ := hc
        exact ⟨t, e, by rw [hk]; exact ht⟩
      · have ez := cells_sorted hX hasc h1 h2
        subst ez
        generalize hH : upd _ p _ = H3
        have s3 := new_same hH np
        have e3 := new_at hH
        have sA : Same H H3 := fun b o e => s3 _ _ (k2.one (ne_of_none e nF) (s1 _ _ e))
        exact q H3 p _ sA e3 (hX.imp fun y d r => r.keep NoTup.nil (Keep.of_same s3))
abbrev N_are_apart : List Str := ["cells", "near", "far"]
theorem sc_are_apart : FnScope N_are_apart ["cells"] (defScope s_are_apart) := ⟨rfl, rfl, rfl, by decide +kernel, rfl, by decide +kernel, by decide +kernel⟩
def sp_are_apart (K : PySem.W.Frag) : Sp := fun vs H Q _ => ∃ (D : Addr) (xs : List V) (cs : List Cell), vs = [.ref D] ∧ H D = some (.lst xs) ∧ Each CellV H xs cs ∧ AscC cs ∧ cs.length ≤ 1000 ∧ ∀ H', Same H H' → Q (.bl true) H'
theorem cal_are_apart (T : Tx w K mg) : C8.Cal P w K mg base 1 "are_apart" (sp_are_apart K) [] := by
  refine cal_of (st := s_are_apart) (ps := ["cells"]) T.d_are_apart T.m_are_apart sc_are_apart (fun _ _ _ _ _ _ us hl => match us, hl with | [_], _ => rfl) (fun vs H Q E h => ?_) (fun cdv A outer s H vs Q E hr h => ?_)
  · obtain ⟨D, xs, cs, rfl, _⟩ := h
    rfl
  · obtain ⟨D, xs, cs, rfl, eD, hE, hasc, hlen, q⟩ := h
    refine ⟨_, (pss_one (ps_ret (pe_callB (cr_all rfl) (by rfl) T.f_all (by decide +kernel) (pa_cons (pe_lc (own := [("near", 1), ("far", 2)]) (g := gTup K 2 (gCons (gName 1) (gCons (gName 2) (gNil)))) (tt := tYes) rfl sc_are_apart.nd (RZ.pi_zipA (by rfl) T.f_zip (pa_cons (pv 0) (pa_cons (pe_slice sl_list (pv 0) (po_some pe_int) po_none) pa_nil))) (blkOk_by (own := [("near", 1), ("far", 2)]) (N := N_are_apart) (sc := defScope s_are_apart) (by decide +kernel)) (fun _ _ _ _ _ => pg_tup rfl (pgs_cons (pg_name (i := 1) sc_are_apart.nd rfl (Or.inl rfl)) (pgs_cons (pg_name (i := 2) sc_are_apart.nd rfl (Or.inl rfl)) pgs_nil))) (fun _ _ _ _ _ => pts_nil) (fun _ _ _ _ _ => (pe_cmpR op_lt (pe_ix (ixtK (K := K) (by rfl)) (pv 1) pe_int (fun _ _ => rfl)) (pe_ix (ixtK (K := K) (by rfl)) (pv 2) pe_int (fun _ _ => rfl)) (nomark _)))) pa_nil)))), ?_⟩
    refine ⟨_, rfl, _, rfl, _, rfl, D, _, rfl, .inl (.inl eD), fun u nu => ?_⟩
    generalize hH : upd _ u _ = H1
    have s1 := new_same hH nu
    have e1 := new_at hH
    have hl := hE.1
    rw [cut_tail] at e1
    refine ⟨D, u, xs, _, rfl, .inl ⟨.inl (.inl (s1 _ _ eD)), .inl (.inl e1), fun D2 hD2 => ?_⟩⟩
    refine lc_vals (walk_zip (xs := xs) (ys := xs.drop 1) (n := xs.length - 1) (by rw [List.length_drop]; omega)) hD2 (by omega) (fun _ => .bl true) (fun H2 s2 => ⟨.inl (.inl (s2 _ _ (s1 _ _ eD))), .inl (.inl (s2 _ _ e1))⟩) (fun i x H2 H3 C Cf hi s2 y k => ?_) (fun H2 s2 e2 => ?_)
    · obtain ⟨tt, v1, v2, rfl, nt, rfl, h1, h2⟩ := y
      have h1' : xs[i]? = some v1 := h1
      have h2' : (xs.drop 1)[i]? = some v2 := h2
      rw [List.getElem?_drop] at h2'
      have hi1 : i < cs.length := by omega
      have hi2 : 1 + i < cs.length := by omega
      obtain ⟨a1, rfl, ea1⟩ := hE.2 i v1 _ h1' (List.getElem?_eq_getElem hi1)
      obtain ⟨a2, rfl, ea2⟩ := hE.2 (1 + i) v2 _ h2' (List.getElem?_eq_getElem hi2)
      have s4 : Same H2 (upd H2 tt (.tup [.ref a1, .ref a2])) := same_new nt
      have sB := (s1.trans s2).trans s4
      have hlt := (List.pairwise_iff_getElem.mp hasc) i (1 + i) hi1 hi2 (by omega)
      refine ⟨tt, _, rfl, .inl (.inl upd_same), rfl, _, _, rfl, _, _, rfl, rfl, rfl, yes_in ?_⟩
      refine ⟨_, rfl, a1, _, 0, _, rfl, rfl, .inl (.inl (sB _ _ ea1)), atI_nat (j := 0) rfl, _, rfl, a2, _, 0, _, rfl, rfl, .inl (.inl (sB _ _ ea2)), atI_nat (j := 0) rfl, _, _, rfl, rfl, ?_⟩
      dsimp only
      rw [decide_eq_true (by omega)]
      exact k _ s4
    · rw [all_true] at e2
      refine ⟨D2, _, rfl, .inl (.inl e2), ?_⟩
      rw [all_rep]
      exact q _ (s1.trans s2)
end
end K21
/-! ## WQ -/
set_option Elab.async false
set_option linter.all false
set_option maxRecDepth 100000
set_option maxHeartbeats 4000000
namespace K21
open PySem PySem.Spec PyProof.Rows L2 C8
local macro_rules | `(tactic| walk_at "adv") => `(tactic| repeat (first | refine ⟨_, rfl, ?_⟩ | refine ⟨rfl, ?_⟩ | refine ⟨_, _, rfl, rfl, ?_⟩ | refine iteT ?_ | refine iteF ?_))

def partD (d : Part) : PyData := .tuple [.int (d.1 : Int), .list (d.2.map PyData.int)]
theorem dp_parts (K : PySem.W.Frag) {F : Addr → Prop} {H : Hp} : ∀ {ys : List V} {ps : List Part}, Each (PartV F) H ys ps → DpAll K H ys (ps.map partD)
  | [], [], _ => .nil
  | [], _ :: _, h => by cases h.1
  | _ :: _, [], h => by cases h.1
  | y :: ys, d :: ps, h => by
    obtain ⟨⟨a, b, e, h1, _, h2⟩, ht⟩ := h.cons
    subst e
    exact .cons (.tup (.inl (.inl h1)) (.cons (.int _) (.cons (.lst (.inl (.inl h2)) (dp_ints K H d.2)) .nil))) (dp_parts K ht)
theorem sh_part (d : Part) : Sh 2 (partD d) := Sh.tuple fun x hx => by
  rcases List.mem_cons.mp hx with e | hx
  · rw [e]; exact (Sh.int _).mono (by decide)
  · rw [List.mem_singleton] at hx
    rw [hx]
    exact sh_ints d.2
theorem sh_parts (ps : List Part) : Sh 3 (.list (ps.map partD)) := Sh.list fun x hx => by
  obtain ⟨d, _, rfl⟩ := List.mem_map.mp hx
  exact sh_part d
/-- the parts under way, the last one open -/
def FndAt (H0 H : Hp) (D : Addr) (ds : List Part) : Prop := (ds = [] ∧ H D = some (.lst [])) ∨ ∃ ys pd al bl d, ds = pd ++ [d] ∧ H D = some (.lst (ys ++ [.ref al])) ∧ Each (PartV fun b => b ≠ D ∧ b ≠ bl) H ys pd ∧ H al = some (.tup [.int (d.1 : Int), .ref bl]) ∧ bl ≠ D ∧ H0 bl = none ∧ H bl = some (.lst (d.2.map V.int))
theorem FndAt.list {H0 H : Hp} {D : Addr} {ds : List Part} (h : FndAt H0 H D ds) : ∃ zs, H D = some (.lst zs) ∧ Each (PartV fun b => b ≠ D) H zs ds := by
  rcases h with ⟨rfl, e⟩ | ⟨ys, pd, al, bl, d, rfl, e, hE, ea, bD, _, eb⟩
  · exact ⟨[], e, Each.nil⟩
  · refine ⟨_, e, Each.snoc (hE.imp fun y d r => ?_) ⟨al, bl, rfl, ea, bD, eb⟩⟩
    obtain ⟨a, b, e1, g1, f, g2⟩ := r
    exact ⟨a, b, e1, g1, f.1, g2⟩
theorem FndAt.same {H0 H H' : Hp} {D : Addr} {ds : List Part} (s : Same H H') (h : FndAt H0 H D ds) : FndAt H0 H' D ds := by
  rcases h with ⟨rfl, e⟩ | ⟨ys, pd, al, bl, d, rfl, e, hE, ea, bD, b0, eb⟩
  · exact .inl ⟨rfl, s _ _ e⟩
  · exact .inr ⟨ys, pd, al, bl, d, rfl, s _ _ e, hE.imp fun y d r => r.keep NoTup.nil (Keep.of_same s) fun b _ => by simp, s _ _ ea, bD, b0, s _ _ eb⟩
/-- a new part at the end -/
theorem FndAt.more {H0 H H2 H3 : Hp} {D r t : Addr} {ds : List Part} {zs : List V} {p : Nat} {v : Int} (h : FndAt H0 H D ds) (z : H D = some (.lst zs)) (s2 : Same H H2) (nr : H r = none) (r0 : H0 r = none) (er : H2 r = some (.lst [.int v])) (et : H2 t = some (.tup [.int (p : Int), .ref r])) (k : Keep [D] H2 H3) (e3 : H3 D = some (.lst (zs ++ [.ref t]))) : FndAt H0 H3 D (ds ++ [(p, [v])]) := by
  obtain ⟨ys, e, hE⟩ := h.list
  have ez : zs = ys := by
    rw [z] at e
    exact HO.lst.inj (Option.some.inj e)
  subst ez
  have rD : r ≠ D := fun q => by rw [q, z] at nr; cases nr
  have n2 : NoTup [D] H2 := NoTup.one (s2 _ _ z)
  refine .inr ⟨zs, ds, t, r, (p, [v]), rfl, e3, hE.imp fun y d q => ?_, k.one (ne_of et (s2 _ _ z) (by intro z; cases z)) et, rD, r0, k.one rD er⟩
  obtain ⟨a, b, e1, g1, f, g2⟩ := q
  have br : b ≠ r := ne_of_none g2 nr
  exact ⟨a, b, e1, k.one (ne_of (s2 _ _ g1) (s2 _ _ z) (by intro z; cases z)) (s2 _ _ g1), ⟨f, br⟩, k.one f (s2 _ _ g2)⟩
/-- a word more in the last part -/
theorem FndAt.grow {H0 H H3 : Hp} {D bl : Addr} {pd : List Part} {d : Part} {ys : List V} {al : Addr} {v : Int} (e : H D = some (.lst (ys ++ [.ref al]))) (hE : Each (PartV fun b => b ≠ D ∧ b ≠ bl) H ys pd) (ea : H al = some (.tup [.int (d.1 : Int), .ref bl])) (bD : bl ≠ D) (b0 : H0 bl = none) (eb : H bl = some (.lst (d.2.map V.int)))
    (k : Keep [bl] H H3) (e3 : H3 bl = some (.lst (d.2.map V.int ++ [.int v]))) : FndAt H0 H3 D (pd ++ [(d.1, d.2 ++ [v])]) := by
  have n : NoTup [bl] H := NoTup.one eb
  refine .inr ⟨ys, pd, al, bl, (d.1, d.2 ++ [v]), rfl, k.one (fun z => bD z.symm) e, hE.imp fun y d q => q.keep n k fun b hb hm => hb.2 (by simpa using hm), k.one (ne_of ea eb (by intro z; cases z)) ea, bD, b0, ?_⟩
  rw [e3, List.map_append]
  rfl
theorem eqv_parts (ds : List Part) : PyData.eqv (.list (ds.map partD)) (.list []) = ds.isEmpty := by
  rw [eqv_nil]
  cases ds <;> rfl
def PocI (L D : Addr) (cs : List Cell) (H0 H1 : Hp) (i : Nat) (σ : L2.St) (H : Hp) : Prop := ∃ y2 y3 : Option V, σ = [some (.ref L), some (.ref D), y2, y3, none] ∧ Keep [D] H0 H ∧ FndAt H0 H D (mergeM (cs.take i))
theorem merge_take (cs : List Cell) (i : Nat) (h : i < cs.length) : mergeM (cs.take (i + 1)) = addCell (mergeM (cs.take i)) cs[i] := by
  rw [List.take_succ_eq_append_getElem h, mergeM_snoc]
theorem addCell_len (ds : List Part) (c : Cell) : (addCell ds c).length ≤ ds.length + 1 ∧ ∀ n, (∀ d ∈ ds, d.2.length ≤ n) → ∀ d ∈ addCell ds c, d.2.length ≤ n + 1 := by
  rcases snoc_or ds with rfl | ⟨a, d, rfl⟩
  · refine ⟨Nat.le_refl _, fun n _ d hd => ?_⟩
    rw [addCell_nil, List.mem_singleton] at hd
    rw [hd]
    simp
  · rw [addCell_snoc]
    split
    · refine ⟨by simp, fun n h e he => ?_⟩
      rcases List.mem_append.mp he with m | m
      · have := h e (List.mem_append_left _ m); omega
      · rw [List.mem_singleton] at m
        have := h d (by simp)
        rw [m]
        simp
        omega
    · refine ⟨by simp, fun n h e he => ?_⟩
      rcases List.mem_append.mp he with m | m
      · have := h e m; omega
      · rw [List.mem_singleton] at m
        rw [m]
        simp
theorem merge_len (cs : List Cell) : (mergeM cs).length ≤ cs.length ∧ ∀ d ∈ mergeM cs, d.2.length ≤ cs.length := by
  have go : ∀ n, ∀ cs : List Cell, cs.length = n → (mergeM cs).length ≤ n ∧ ∀ d ∈ mergeM cs, d.2.length ≤ n := fun n => by
    induction n with
    | zero =>
      intro cs h
      have : cs = [] := List.eq_nil_of_length_eq_zero h
      subst this
      exact ⟨Nat.le_refl _, fun d hd => by cases hd⟩
    | succ n ih =>
      intro cs h
      rcases snoc_or cs with rfl | ⟨a, c, rfl⟩
      · cases h
      · have h1 : a.length = n := by simpa using h
        obtain ⟨g1, g2⟩ := ih a h1
        rw [mergeM_snoc]
        obtain ⟨f1, f2⟩ := addCell_len (mergeM a) c
        exact ⟨by omega, f2 n g2⟩
  exact go _ cs rfl

section
variable {P : Program} {w : World} {K : PySem.W.Frag} {mg : Str → Option Value} {base : Heap}
abbrev N_are_image_parts : List Str := ["value", "part"]
theorem sc_are_image_parts : FnScope N_are_image_parts ["value"] (defScope s_are_image_parts) := ⟨rfl, rfl, rfl, by decide +kernel, rfl, by decide +kernel, by decide +kernel⟩
def sp_are_image_parts (K : PySem.W.Frag) : Sp := fun vs H Q _ => ∃ (L : Addr) (ys : List V) (F : Addr → Prop) (ps : List Part), vs = [.ref L] ∧ H L = some (.lst ys) ∧ Each (PartV F) H ys ps ∧ (∀ d ∈ ps, PartOk d) ∧ AscC (cellsM ps) ∧ (cellsM ps).length ≤ 1000 ∧ ps.length ≤ 1000 ∧ ∀ H', Same H H' → Q (.bl true) H'
theorem cal_are_image_parts (T : Tx w K mg) : C8.Cal P w K mg base 5 "are_image_parts" (sp_are_image_parts K) [] := by
  have c_are_apart := cal_are_apart (P := P) (base := base) T
  have c_cells_of_parts := cal_cells_of_parts (P := P) (base := base) T
  have c_is_list := cal_is_list (P := P) (base := base) T
  have c_is_image_part := cal_is_image_part (P := P) (base := base) T
  refine cal_of (st := s_are_image_parts) (ps := ["value"]) T.d_are_image_parts T.m_are_image_parts sc_are_image_parts (fun _ _ _ _ _ _ us hl => match us, hl with | [_], _ => rfl) (fun vs H Q E h => ?_) (fun cdv A outer s H vs Q E hr h => ?_)
  · obtain ⟨L, ys, F, ps, rfl, _⟩ := h
    rfl
  · obtain ⟨L, ys, F, ps, rfl, eL, hE, hok, hasc, hlen, hpl, q⟩ := h
    refine ⟨_, (pss_cons (ps_if (PW.pt (pw_or (pt_not (pt_val (pe_c c_is_list hr (by decide) (by rfl) (pa_cons (pv 0) pa_nil)))) (pw_or1 (pt_not (pt_val (pe_callB (cr_all rfl) (by rfl) T.f_all (by decide +kernel) (pa_cons (pe_lc (own := [("part", 1)]) (g := gName 1) (tt := tYes) rfl sc_are_image_parts.nd (pi_list (pv 0)) (blkOk_by (own := [("part", 1)]) (N := N_are_image_parts) (sc := defScope s_are_image_parts) (by decide +kernel)) (fun _ _ _ _ _ => pg_name (i := 1) sc_are_image_parts.nd rfl (Or.inl rfl)) (fun _ _ _ _ _ => pts_nil) (fun _ _ _ _ _ => (pe_c c_is_image_part hr (by decide) (by rfl) (pa_cons (pv 1) pa_nil)))) pa_nil)))))))
        (pss_one (ps_ret pe_bl))
        pss_nil)
      (pss_one (ps_ret (pe_c c_are_apart hr (by decide) (by rfl) (pa_cons (pe_c c_cells_of_parts hr (by decide) (by rfl) (pa_cons (pv 0) pa_nil)) pa_nil))))), ?_⟩
    refine ⟨_, rfl, L, rfl, .inl (.base (.lst eL)), fun H1 s1 => ⟨_, rfl, iteF ?_⟩⟩
    have eL1 := s1 _ _ eL
    have hE1 : Each (PartV F) H1 ys ps := hE.imp fun y d r => by
      obtain ⟨a, b, e, g1, f, g2⟩ := r
      exact ⟨a, b, e, s1 _ _ g1, f, s1 _ _ g2⟩
    refine ⟨_, rfl, L, rfl, ⟨_, .inl (.inl eL1)⟩, fun D hD => ?_⟩
    refine lc_vals (walk_list (xs := ys)) hD (by rw [hE.1]; omega) (fun _ => .bl true) (fun H2 s2 => .inl (.inl (s2 _ _ eL1))) (fun i x H2 H3 C Cf hi s2 y k => ?_) (fun H2 s2 e2 => ?_)
    · obtain ⟨rfl, hx⟩ := y
      have hi2 : i < ps.length := by rw [← hE.1]; exact hi
      obtain ⟨a, b, e, g1, f, g2⟩ := hE1.2 i x _ hx (List.getElem?_eq_getElem hi2)
      exact ⟨rfl, yes_in ⟨_, rfl, x, F, _, rfl, ⟨a, b, e, s2 _ _ g1, f, s2 _ _ g2⟩, hok _ (List.getElem_mem hi2), fun H4 s4 => k _ s4⟩⟩
    · rw [all_true] at e2
      refine ⟨D, _, rfl, .inl (.inl e2), _, rfl, ?_⟩
      rw [all_rep]
      refine iteF ?_
      have sA := s1.trans s2
      refine ⟨_, rfl, L, ys, F, ps, rfl, sA _ _ eL, hE.imp fun y d r => ?_, hasc, hlen, hpl, fun H3 D3 xs s3 e3 hX => ?_⟩
      · obtain ⟨a, b, e, g1, f, g2⟩ := r
        exact ⟨a, b, e, sA _ _ g1, f, sA _ _ g2⟩
      · exact ⟨D3, xs, _, rfl, e3, hX, hasc, hlen, fun H4 s4 => q _ (sA.trans (s3.trans s4))⟩
abbrev N_parts_of_cells : List Str := ["cells", "found", "place", "word", "row"]
theorem sc_parts_of_cells : FnScope N_parts_of_cells ["cells"] (defScope s_parts_of_cells) := ⟨rfl, rfl, rfl, by decide +kernel, rfl, by decide +kernel, by decide +kernel⟩
def sp_parts_of_cells (K : PySem.W.Frag) : Sp := fun vs H Q _ => ∃ (D : Addr) (xs : List V) (cs : List Cell), vs = [.ref D] ∧ H D = some (.lst xs) ∧ Each CellV H xs cs ∧ cs.length ≤ 1000 ∧ ∀ H' p, Same H H' → PartsT H' p (mergeM cs) → Q (.ref p) H'
theorem cal_parts_of_cells (T : Tx w K mg) : C8.Cal P w K mg base 1 "parts_of_cells" (sp_parts_of_cells K) [] := by
  refine cal_of (st := s_parts_of_cells) (ps := ["cells"]) T.d_parts_of_cells T.m_parts_of_cells sc_parts_of_cells (fun _ _ _ _ _ _ us hl => match us, hl with | [_], _ => rfl) (fun vs H Q E h => ?_) (fun cdv A outer s H vs Q E hr h => ?_)
  · obtain ⟨D, xs, cs, rfl, _⟩ := h
    rfl
  · obtain ⟨L, xs, cs, rfl, eL, hE, hlen, q⟩ := h
    refine ⟨_, (pss_cons (ps_set (i := 1) sc_parts_of_cells.nd rfl (Or.inl rfl) (pe_lst pa_nil))
      (pss_cons (ps_for PassesOwn.never rfl (pi_list (pv 0)) (pg_tup rfl (pgs_cons (pg_name (i := 2) sc_parts_of_cells.nd rfl (Or.inl rfl)) (pgs_cons (pg_name (i := 3) sc_parts_of_cells.nd rfl (Or.inl rfl)) pgs_nil)))
        (pss_one (ps_if (PW.pt (pw_and (pt_cmpR (op_neD hr.units) (pv 1) (pe_lst pa_nil) (nomark _)) (pw_and1 (pt_cmpR op_eq (pe_op op_add (pe_ix ix_tup (pe_ix ix_list (pv 1) (pe_un un_neg pe_int) (fun _ _ => rfl)) pe_int (fun _ _ => rfl)) (pe_callB call_len_seq (by rfl) T.f_len (by decide +kernel) (pa_cons (pe_ix ix_tup (pe_ix ix_list (pv 1) (pe_un un_neg pe_int) (fun _ _ => rfl)) pe_int (fun _ _ => rfl)) pa_nil))) (pv 2) (nomark _)))))
          (pss_one (ps_expr (pe_bm PySem.F.plainAttrs_list PySem.F.slot_list_append PySem.F.type_list_append mt_append (pe_ix ix_tup (pe_ix ix_list (pv 1) (pe_un un_neg pe_int) (fun _ _ => rfl)) pe_int (fun _ _ => rfl)) (pa_cons (pv 3) pa_nil))))
          (pss_one (ps_expr (pe_bm PySem.F.plainAttrs_list PySem.F.slot_list_append PySem.F.type_list_append mt_append (pv 1) (pa_cons (pe_tup (pa_cons (pv 2) (pa_cons (pe_lst (pa_cons (pv 3) pa_nil)) pa_nil))) pa_nil)))))))
      (pss_one (ps_ret (pe_callTy call_tuple_of (by rfl) T.f_tuple (by decide +kernel) (pa_cons (pe_lc (own := [("place", 2), ("row", 4)]) (g := gTup K 2 (gCons (gName 2) (gCons (gName 4) (gNil)))) (tt := tYes) rfl sc_parts_of_cells.nd (pi_list (pv 1)) (blkOk_by (own := [("place", 2), ("row", 4)]) (N := N_parts_of_cells) (sc := defScope s_parts_of_cells) (by decide +kernel)) (fun _ _ _ _ _ => pg_tup rfl (pgs_cons (pg_name (i := 2) sc_parts_of_cells.nd rfl (Or.inl rfl)) (pgs_cons (pg_name (i := 4) sc_parts_of_cells.nd rfl (Or.inl rfl)) pgs_nil))) (fun _ _ _ _ _ => pts_nil) (fun _ _ _ _ _ => (pe_tup (pa_cons (pv 2) (pa_cons (pe_callTy (ctupK (K := K) (by rfl)) (by rfl) T.f_tuple (by decide +kernel) (pa_cons (pv 4) pa_nil)) pa_nil))))) pa_nil)))))), ?_⟩
    refine ⟨Nat.zero_le _, fun D nD => ?_⟩
    generalize hH : upd H D _ = H1
    have s1 := new_same hH nD
    have e1 : H1 D = some (.lst []) := new_at hH
    have LD : L ≠ D := ne_of_none eL nD
    have hxl := hE.1
    have hk1 : Keep [D] H H1 := Keep.of_same s1
    refine ⟨_, rfl, L, rfl, ⟨_, .inl (.inl (s1 _ _ eL))⟩, ?_⟩
    refine for_it (walk_list (xs := xs)) (PocI L D cs H H1) ⟨none, none, rfl, hk1, .inl ⟨rfl, e1⟩⟩ (fun i σ H2 _ h => ?_) (fun i v σ H20 H2 hi h y => ?_) (fun σ H2 h => ?_)
    · obtain ⟨y2, y3, _, k2, _⟩ := h
      exact .inl (.inl (k2.one LD eL))
    · obtain ⟨y2, y3, rfl, k2, hF⟩ := h
      obtain ⟨rfl, hv⟩ := y
      have hi2 : i < cs.length := by rw [← hxl]; exact hi
      obtain ⟨a, rfl, ea⟩ := hE.2 i v _ hv (List.getElem?_eq_getElem hi2)
      have ea2 := k2.one (ne_of_none ea nD) ea
      obtain ⟨zs, ez, hZ⟩ := hF.list
      have hzl := hZ.1
      have hml := merge_len (cs.take i)
      have hil : (cs.take i).length ≤ 1000 := by rw [List.length_take]; omega
      refine ⟨a, _, rfl, .inl (.inl ea2), rfl, _, _, rfl, _, _, rfl, rfl, ?_⟩
      refine ⟨_, rfl, Nat.zero_le _, fun u nu => ?_⟩
      generalize hH : upd _ u _ = H3
      have s3 := new_same hH nu
      have e3 : H3 u = some (.lst []) := new_at hH
      have hF3 := hF.same s3
      have hZ3 : Each (PartV fun b => b ≠ D) H3 zs _ := hZ.imp fun y d r => r.keep NoTup.nil (Keep.of_same s3) fun b _ => by simp
      refine ⟨_, _, .lst (.inl (.inl (s3 _ _ ez))) (dp_parts K hZ3), .lst (.inl (.inl e3)) .nil, (sh_parts _).shaped (by decide), sh_nil.shaped (by decide), _, rfl, ?_⟩
      rw [eqv_parts]
      -- a new part
      have new : ∀ H4 : Hp, Same H3 H4 → addCell (mergeM (cs.take i)) cs[i] = mergeM (cs.take i) ++ [(cs[i].1, [cs[i].2])] →
          tDrop (tBM K "list" rAppend (tVar 1) (tCons (tTup (tCons (tVar 2) (tCons (tLst (tCons (tVar 3) tNil)) tNil))) tNil)) { nx := PocI L D cs H H1 (i + 1), rt := fun _ _ => False, ct := PocI L D cs H H1 (i + 1) } [some (.ref L), some (.ref D), some (.int (cs[i].1 : Int)), some (.int cs[i].2), none] H4 := fun H4 s4 hadd => by
        have ez4 := s4 _ _ (s3 _ _ ez)
        refine ⟨_, rfl, .inl ⟨rfl, _, .inl (.inl ez4)⟩, _, rfl, _, rfl, sz (by show 1 ≤ 1000000; decide), fun r nr => ?_⟩
        generalize hH : upd _ r _ = H5
        have s5 := new_same hH nr
        have e5 : H5 r = some (.lst [.int cs[i].2]) := new_at hH
        refine ⟨sz (by show 2 ≤ 1000000; decide), fun t nt => ?_⟩
        generalize hH : upd _ t _ = H6
        have s6 := new_same hH nt
        have e6 : H6 t = some (.tup [.int (cs[i].1 : Int), .ref r]) := new_at hH
        refine ⟨D, zs, _, rfl, rfl, s6 _ _ (s5 _ _ ez4), szl (by rw [hzl]; omega), ?_⟩
        generalize hH : upd _ D _ = H7
        have k7 : Keep [D] H6 H7 := by rw [← hH]; exact Keep.put (by simp)
        have e7 := new_at hH
        have s34 := s3.trans s4
        have r0 : H r = none := fresh_keep k2 (by
          simp
          intro z
          rw [z, ez4] at nr
          cases nr) (s34.free nr)
        refine ⟨_, _, rfl, k2.trans ((Keep.of_same (s34.trans (s5.trans s6))).trans k7), ?_⟩
        rw [merge_take cs i hi2, hadd]
        exact (hF.same s34).more ez4 (s5.trans s6) nr r0 (s6 _ _ e5) e6 k7 e7
      rcases snoc_or (mergeM (cs.take i)) with hn | ⟨pd, d, hn⟩
      · rw [hn]
        refine iteF (iteF ?_)
        exact new H3 (Same.refl _) (by rw [hn]; rfl)
      · rw [hn]
        have hie : (pd ++ [d]).isEmpty = false := by cases pd <;> rfl
        rw [hie]
        refine iteT ?_
        rw [hn] at hF3
        rcases hF3 with ⟨h0, _⟩ | ⟨ys, pd2, al, bl, d2, hd, e, hY, eal, bD, b0, ebl⟩
        · simp at h0
        · obtain ⟨hp, hd2⟩ := List.append_inj' hd rfl
          have hd3 : d2 = d := (List.cons.inj hd2).1.symm
          subst hp hd3
          have hadd := addCell_snoc pd d2 cs[i]
          refine ⟨_, rfl, _, rfl, D, _, -1, .ref al, rfl, rfl, .inl (.inl e), atI_last _ _, al, _, 0, _, rfl, rfl, .inl (.inl eal), atI_nat (j := 0) rfl, ?_⟩
          refine ⟨_, rfl, _, rfl, D, _, -1, .ref al, rfl, rfl, .inl (.inl e), atI_last _ _, al, _, 1, _, rfl, rfl, .inl (.inl eal), atI_nat (j := 1) rfl, bl, _, rfl, .inl (.inl (.inl ebl)), _, _, rfl, rfl, _, rfl, rfl, _, rfl, ?_⟩
          by_cases hc : d2.1 + d2.2.length = cs[i].1
          · refine iteDT (by rw [List.length_map]; exact congrArg V.int (by omega)) ?_
            rw [if_pos hc] at hadd
            refine ⟨_, rfl, _, rfl, D, _, -1, .ref al, rfl, rfl, .inl (.inl e), atI_last _ _, al, _, 1, _, rfl, rfl, .inl (.inl eal), atI_nat (j := 1) rfl, .inl ⟨rfl, _, .inl (.inl ebl)⟩, _, rfl, bl, _, _, rfl, rfl, ebl, ?_, ?_⟩
            · have := hml.2 d2 (by rw [hn]; simp)
              exact szl (by rw [List.length_map]; omega)
            · generalize hH : upd _ bl _ = H4
              have k4 : Keep [bl] H3 H4 := by rw [← hH]; exact Keep.put (by simp)
              have e4 := new_at hH
              refine ⟨_, _, rfl, fun b o hb hz => ?_, ?_⟩
              · have hbl : b ≠ bl := fun z => by rw [z, b0] at hz; cases hz
                exact k4.one hbl (s3 _ _ (k2 b o hb hz))
              · rw [merge_take cs i hi2, hn, hadd]
                exact FndAt.grow e hY eal bD b0 ebl k4 e4
          · refine iteDF (fun z => hc (by have := V.int.inj z; rw [List.length_map] at this; omega)) ?_
            rw [if_neg hc] at hadd
            exact new H3 (Same.refl _) (by rw [hn]; exact hadd)
    · obtain ⟨y2, y3, rfl, k2, hF⟩ := h
      rw [hxl, List.take_length] at hF
      obtain ⟨zs, ez, hZ⟩ := hF.list
      have hzl := hZ.1
      have hml := merge_len cs
      refine ⟨_, rfl, D, rfl, ⟨_, .inl (.inl ez)⟩, fun D2 hD2 => ?_⟩
      refine lc_pure (walk_list (xs := zs)) hD2 (by rw [hzl]; omega) (fun i y H => ∀ d, (mergeM cs)[i]? = some d → PartT y d H) (fun H3 s3 => .inl (.inl (s3 _ _ ez))) (fun i y H3 H4 hl k h d hd => (h d hd).keep (NoTup.one hl.choose_spec) k) (fun i x H3 H4 C Cf hi s3 hacc y k => ?_) (fun H3 ys s3 hl e3 hr => ?_)
      · obtain ⟨rfl, hx⟩ := y
        have hi2 : i < (mergeM cs).length := by rw [← hzl]; exact hi
        obtain ⟨a, b, rfl, ea, bD, eb⟩ := hZ.2 i x _ hx (List.getElem?_eq_getElem hi2)
        have ea4 := s3 _ _ ea
        have eb4 := s3 _ _ eb
        refine ⟨a, _, rfl, .inl (.inl ea4), rfl, _, _, rfl, _, _, rfl, rfl, rfl, yes_in ?_⟩
        refine ⟨_, rfl, _, rfl, b, _, rfl, .inl ⟨.inl (.inl eb4), fun u nu => ?_⟩⟩
        generalize hH : upd _ u _ = H5
        have s5 := new_same hH nu
        have e5 := new_at hH
        refine ⟨sz (by show 2 ≤ 1000000; decide), fun t nt => ?_⟩
        generalize hH : upd _ t _ = H6
        have s6 := new_same hH nt
        have e6 := new_at hH
        refine k _ H6 (s5.trans s6) fun d hd => ?_
        rw [List.getElem?_eq_getElem hi2] at hd
        rw [← Option.some.inj hd]
        exact ⟨t, u, rfl, e6, s6 _ _ e5⟩
      · refine ⟨D2, _, rfl, .inl ⟨.inl (.inl e3), fun p np => ?_⟩⟩
        generalize hH : upd _ p _ = H4
        have s4 := new_same hH np
        have e4 := new_at hH
        have sA : Same H H4 := fun b o e => s4 _ _ (s3 _ _ (k2 b o (by simp [ne_of_none e nD]) e))
        refine q H4 p sA ⟨ys, e4, by rw [hl, hzl], fun i y d h1 h2 => ?_⟩
        exact (hr i y h1 d h2).keep NoTup.nil (Keep.of_same s4)
abbrev N_Image_init : List Str := ["self", "parts"]
theorem sc_Image_init : FnScope N_Image_init ["self", "parts"] (defScope s_Image_init) := ⟨rfl, rfl, rfl, by decide +kernel, rfl, by decide +kernel, by decide +kernel⟩
def sp_Image_init (C : Addr) : Sp := fun vs H Q _ => ∃ (x dx L : Addr) (ys : List V) (F : Addr → Prop) (ps : List Part), vs = [.ref x, .ref L] ∧ H x = some (.ins C dx []) ∧ H L = some (.lst ys) ∧ Each (PartV F) H ys ps ∧ (∀ d ∈ ps, PartOk d) ∧ AscC (cellsM ps) ∧ (cellsM ps).length ≤ 1000 ∧ ps.length ≤ 1000 ∧
  ∀ H', Keep [x] H H' → ImgAt C H' x (mergeM (cellsM ps)) → Q .non H'
theorem mak_Image (T : Tx w K mg) : C8.Mak P w K mg base 6 "Image" (He.ga K "Image") (sp_Image_init (He.ga K "Image")) [] := by
  have c_parts_of_cells := cal_parts_of_cells (P := P) (base := base) T
  have c_are_image_parts := cal_are_image_parts (P := P) (base := base) T
  have c_cells_of_parts := cal_cells_of_parts (P := P) (base := base) T
  refine mak_of (st := s_Image_init) (ps := ["self", "parts"]) T.mk_Image T.m_Image T.d_Image_init sc_Image_init (fun _ _ _ _ _ _ us hl => match us, hl with | [_, _], _ => rfl) (fun vs H Q E h => ?_) (fun cdv A outer s H vs Q E hr h => ?_)
  · obtain ⟨x, dx, L, ys, F, ps, rfl, _⟩ := h
    rfl
  · obtain ⟨x, dx, L, ys, F, ps, rfl, hx, eL, hE, hok, hasc, hlen, hpl, q⟩ := h
    refine ⟨_, (pss_cons (ps_if (pt_not (pt_val (pe_c c_are_image_parts hr (by decide) (by rfl) (pa_cons (pv 1) pa_nil))))
        (pss_one ps_never)
        pss_nil)
      (pss_one (ps_fld (pv 0) (pe_c c_parts_of_cells hr (by decide) (by rfl) (pa_cons (pe_c c_cells_of_parts hr (by decide) (by rfl) (pa_cons (pv 1) pa_nil)) pa_nil)) rfl))), ?_⟩
    refine ⟨_, rfl, L, ys, F, ps, rfl, eL, hE, hok, hasc, hlen, hpl, fun H1 s1 => ⟨_, rfl, iteF ?_⟩⟩
    refine ⟨_, rfl, L, ys, F, ps, rfl, s1 _ _ eL, hE.imp fun y d r => ?_, hasc, hlen, hpl, fun H2 D xs s2 eD hX => ?_⟩
    · obtain ⟨a, b, e, g1, f, g2⟩ := r
      exact ⟨a, b, e, s1 _ _ g1, f, s1 _ _ g2⟩
    · refine ⟨D, xs, _, rfl, eD, hX, hlen, fun H3 p s3 hP => ?_⟩
      have sA := s1.trans (s2.trans s3)
      have hx3 := sA _ _ hx
      refine ⟨_, rfl, x, _, dx, _, rfl, hx3, T.cl_Image, T.na_Image_own_parts, by decide, ?_⟩
      generalize hH : upd _ x _ = H4
      have k4 : Keep [x] H3 H4 := by rw [← hH]; exact Keep.put (by simp)
      have e4 := new_at hH
      have n3 : NoTup [x] H3 := fun a m zs e => by
        have : a = x := by simpa using m
        rw [this, hx3] at e
        cases e
      exact q H4 ((Keep.of_same sA).trans k4) ⟨dx, p, e4, hP.keep n3 k4⟩
end
end K21
/-! ## WR -/
set_option Elab.async false
set_option linter.all false
set_option maxRecDepth 100000
set_option maxHeartbeats 4000000
namespace K21
open PySem PySem.Spec PyProof.Rows L2 C8
local macro_rules | `(tactic| walk_at "adv") => `(tactic| repeat (first | refine ⟨_, rfl, ?_⟩ | refine ⟨rfl, ?_⟩ | refine ⟨_, _, rfl, rfl, ?_⟩ | refine iteT ?_ | refine iteF ?_))

theorem prop_of {P : Program} {w : World} {K : PySem.W.Frag} {mg : Str → Option Value} {base : Heap} {g : Addr} {x q : Str} {st : Stmt} {N ps : List Str} {k : Nat} {sp : Sp} (hd : ∃ fd, FunD K x q (defArgs st) (defBody st) (defScope st) [] [] g fd) (S : FnScope N ps (defScope st))
    (hb : ∀ (kV doc pm : Value) (an : Option Addr) (cdv ct : Value) (us : List Value), us.length = ps.length → bindArgs (PySem.W.fnOf x q (defArgs st) (defBody st) (defScope st) .none kV doc pm an cdv ct) ⟨us, []⟩ = pure (ps.zip us))
    (len : ∀ vs H Q E, sp vs H Q E → vs.length = ps.length) (body : BodyOk P w K mg base k g q st N sp) : ∃ fd, FnOk P w K mg base L2.CX0 (k + 1) g fd ps sp ∧ Binds K fd ps [] := by
  obtain ⟨fd, F⟩ := hd
  exact ⟨fd, F.ok S len (fun cdv A outer s H vs Q E hr h => (body cdv A outer s H vs Q E hr h).imp fun t z => ⟨PSs.nox z.1, z.2⟩), F.bindsN hb⟩
theorem own_look (v : V) : ([("own_parts", v)] : List (Str × V)).lookup ("own_parts" : Str) = some v := by
  show (putF "own_parts" v []).lookup _ = _
  rw [lookup_putF, if_pos rfl]
def partTD (d : Part) : PyData := .tuple [.int (d.1 : Int), .tuple (d.2.map PyData.int)]
theorem dp_partsT (K : PySem.W.Frag) {H : Hp} : ∀ {ys : List V} {ps : List Part}, Each PartT H ys ps → DpAll K H ys (ps.map partTD)
  | [], [], _ => .nil
  | [], _ :: _, h => by cases h.1
  | _ :: _, [], h => by cases h.1
  | y :: ys, d :: ps, h => by
    obtain ⟨⟨a, b, e, h1, h2⟩, ht⟩ := h.cons
    subst e
    exact .cons (.tup (.inl (.inl h1)) (.cons (.int _) (.cons (.tup (.inl (.inl h2)) (dp_ints K H d.2)) .nil))) (dp_partsT K ht)
theorem sh_partsT (ps : List Part) : Sh 3 (.tuple (ps.map partTD)) := Sh.tuple fun x hx => by
  obtain ⟨d, _, rfl⟩ := List.mem_map.mp hx
  refine Sh.tuple fun y hy => ?_
  rcases List.mem_cons.mp hy with e | hy
  · rw [e]; exact (Sh.int _).mono (by decide)
  · rw [List.mem_singleton] at hy
    rw [hy]
    refine Sh.tuple fun z hz => ?_
    obtain ⟨i, _, rfl⟩ := List.mem_map.mp hz
    exact Sh.int i
def WordI (H0 : Hp) (x : Addr) (n : Nat) (ds : List Part) (i : Nat) (σ : L2.St) (H : Hp) : Prop := ∃ y2 y3 : Option V, σ = [some (.ref x), some (.int (n : Int)), y2, y3] ∧ H = H0 ∧ lookC (cellsM ds) n = lookC (cellsM (ds.drop i)) n
def optI : Option Int → V
  | none => .non
  | some i => .int i

section
variable {P : Program} {w : World} {K : PySem.W.Frag} {mg : Str → Option Value} {base : Heap}
abbrev N_Image_parts : List Str := ["self", "place", "row"]
theorem sc_Image_parts : FnScope N_Image_parts ["self"] (defScope s_Image_parts) := ⟨rfl, rfl, rfl, by decide +kernel, rfl, by decide +kernel, by decide +kernel⟩
def sp_Image_parts (C : Addr) : Sp := fun vs H Q _ => ∃ (x : Addr) (ds : List Part), vs = [.ref x] ∧ ImgAt C H x ds ∧ ds.length ≤ 1000 ∧ ∀ H' L ys, Same H H' → H' L = some (.lst ys) → Each (PartV fun _ => True) H' ys ds → Q (.ref L) H'
theorem met_Image_parts (T : Tx w K mg) : C8.Met P w K mg base 1 (He.ga K "Image") "parts" (sp_Image_parts (He.ga K "Image")) [] := by
  refine met_of (st := s_Image_parts) (ps := ["self"]) T.cl_Image T.me_Image_parts T.d_Image_parts sc_Image_parts (fun _ _ _ _ _ _ us hl => match us, hl with | [_], _ => rfl) (fun vs H Q E h => ?_) (fun cdv A outer s H vs Q E hr h => ?_)
  · obtain ⟨x, ds, rfl, _⟩ := h
    rfl
  · obtain ⟨x, ds, rfl, ⟨dx, p, ex, zs, ep, hZ⟩, hlen, q⟩ := h
    refine ⟨_, (pss_one (ps_ret (pe_lc (own := [("place", 1), ("row", 2)]) (g := gTup K 2 (gCons (gName 1) (gCons (gName 2) (gNil)))) (tt := tYes) rfl sc_Image_parts.nd (pi_tup (pe_fld (pv 0) rfl)) (blkOk_by (own := [("place", 1), ("row", 2)]) (N := N_Image_parts) (sc := defScope s_Image_parts) (by decide +kernel)) (fun _ _ _ _ _ => pg_tup rfl (pgs_cons (pg_name (i := 1) sc_Image_parts.nd rfl (Or.inl rfl)) (pgs_cons (pg_name (i := 2) sc_Image_parts.nd rfl (Or.inl rfl)) pgs_nil))) (fun _ _ _ _ _ => pts_nil) (fun _ _ _ _ _ => (pe_tup (pa_cons (pv 1) (pa_cons (pe_callTy (clstK (K := K) (by rfl)) (by rfl) T.f_list (by decide +kernel) (pa_cons (pv 2) pa_nil)) pa_nil))))))), ?_⟩
    have hzl := hZ.1
    refine ⟨_, rfl, x, _, dx, _, _, rfl, ex, T.cl_Image, T.na_Image_own_parts, own_look _, p, rfl, ⟨_, .inl (.inl ep)⟩, fun D hD => ?_⟩
    refine lc_pure (walk_tup (xs := zs)) hD (by rw [hzl]; omega) (fun i y H => ∀ d, ds[i]? = some d → PartV (fun b => b ≠ D) y d H) (fun H3 s3 => .inl (.inl (s3 _ _ ep))) (fun i y H3 H4 hl k h d hd => (h d hd).keep (NoTup.one hl.choose_spec) k fun b hb hm => hb (by simpa using hm)) (fun i x H3 H4 C Cf hi s3 hacc y k => ?_) (fun H3 ys s3 hl e3 hr => ?_)
    · obtain ⟨rfl, hx⟩ := y
      have hi2 : i < ds.length := by rw [← hzl]; exact hi
      obtain ⟨a, b, rfl, ea, eb⟩ := hZ.2 i x _ hx (List.getElem?_eq_getElem hi2)
      have ea4 := s3 _ _ ea
      have eb4 := s3 _ _ eb
      refine ⟨a, _, rfl, .inl (.inl ea4), rfl, _, _, rfl, _, _, rfl, rfl, rfl, yes_in ?_⟩
      refine ⟨_, rfl, _, rfl, b, _, rfl, .inr (.inl (.inl eb4)), fun u nu => ?_⟩
      generalize hH : upd _ u _ = H5
      have s5 := new_same hH nu
      have e5 := new_at hH
      refine ⟨sz (by show 2 ≤ 1000000; decide), fun t nt => ?_⟩
      generalize hH : upd _ t _ = H6
      have s6 := new_same hH nt
      have e6 := new_at hH
      refine k _ H6 (s5.trans s6) fun d hd => ?_
      rw [List.getElem?_eq_getElem hi2] at hd
      rw [← Option.some.inj hd]
      obtain ⟨acc, hacc⟩ := hacc
      exact ⟨t, u, rfl, e6, (fun z => by rw [z, hacc] at nu; cases nu), s6 _ _ e5⟩
    · refine q H3 D ys s3 e3 ⟨by rw [hl, hzl], fun i y d h1 h2 => ?_⟩
      obtain ⟨a, b, e, g1, _, g2⟩ := hr i y h1 d h2
      exact ⟨a, b, e, g1, trivial, g2⟩
abbrev N_Image_word : List Str := ["self", "place", "first", "row"]
theorem sc_Image_word : FnScope N_Image_word ["self", "place"] (defScope s_Image_word) := ⟨rfl, rfl, rfl, by decide +kernel, rfl, by decide +kernel, by decide +kernel⟩
def sp_Image_word (C : Addr) : Sp := fun vs H Q _ => ∃ (x : Addr) (ds : List Part) (n : Nat), vs = [.ref x, .int (n : Int)] ∧ ImgAt C H x ds ∧ n < 960 ∧ Q (optI (lookC (cellsM ds) n)) H
theorem met_Image_word (T : Tx w K mg) : C8.Met P w K mg base 3 (He.ga K "Image") "word" (sp_Image_word (He.ga K "Image")) [] := by
  have c_is_count := cal_is_count (P := P) (base := base) T
  refine met_of (st := s_Image_word) (ps := ["self", "place"]) T.cl_Image T.me_Image_word T.d_Image_word sc_Image_word (fun _ _ _ _ _ _ us hl => match us, hl with | [_, _], _ => rfl) (fun vs H Q E h => ?_) (fun cdv A outer s H vs Q E hr h => ?_)
  · obtain ⟨x, ds, n, rfl, _⟩ := h
    rfl
  · obtain ⟨x, ds, n, rfl, ⟨dx, p, ex, zs, ep, hZ⟩, hn, q⟩ := h
    refine ⟨_, (pss_cons (ps_if (PW.pt (pw_or (pt_not (pt_val (pe_c c_is_count hr (by decide) (by rfl) (pa_cons (pv 1) pa_nil)))) (pw_or1 (pt_cmpR op_ge (pv 1) (pe_gc (by rfl) T.v_MEMORY_END) (nomark _)))))
        (pss_one ps_never)
        pss_nil)
      (pss_cons (ps_for PassesOwn.never rfl (pi_tup (pe_fld (pv 0) rfl)) (pg_tup rfl (pgs_cons (pg_name (i := 2) sc_Image_word.nd rfl (Or.inl rfl)) (pgs_cons (pg_name (i := 3) sc_Image_word.nd rfl (Or.inl rfl)) pgs_nil)))
        (pss_one (ps_if (pt_chain op_le op_lt (pv 2) (pv 1) (pe_op op_add (pv 2) (pe_callB call_len_seq (by rfl) T.f_len (by decide +kernel) (pa_cons (pv 3) pa_nil))))
          (pss_one (ps_ret (pe_ix ix_tup (pv 3) (pe_op op_sub (pv 1) (pv 2)) (fun _ _ => rfl))))
          pss_nil)))
      (pss_one (ps_ret pe_non)))), ?_⟩
    have hzl := hZ.1
    refine ⟨_, rfl, _, rfl, _, rfl, iteNF (by omega) ?_⟩
    refine ⟨_, rfl, _, _, rfl, rfl, _, rfl, iteDF (by omega) ?_⟩
    delta tNext
    dsimp only
    refine ⟨_, rfl, x, _, dx, _, _, rfl, ex, T.cl_Image, T.na_Image_own_parts, own_look _, p, rfl, ⟨_, .inl (.inl ep)⟩, ?_⟩
    refine for_it (walk_tup (xs := zs)) (WordI H x n ds) ⟨none, none, rfl, rfl, rfl⟩ (fun i σ H2 _ h => ?_) (fun i v σ H20 H2 hi h y => ?_) (fun σ H2 h => ?_)
    · obtain ⟨y2, y3, _, rfl, _⟩ := h
      exact .inl (.inl ep)
    · obtain ⟨y2, y3, rfl, eH, hlk⟩ := h
      obtain ⟨rfl, hv⟩ := y
      subst eH
      have hi2 : i < ds.length := by rw [← hzl]; exact hi
      obtain ⟨a, b, rfl, ea, eb⟩ := hZ.2 i v _ hv (List.getElem?_eq_getElem hi2)
      rw [List.drop_eq_getElem_cons hi2, lookC_cons] at hlk
      refine ⟨a, _, rfl, .inl (.inl ea), rfl, _, _, rfl, _, _, rfl, rfl, ?_⟩
      refine ⟨_, rfl, _, rfl, _, _, rfl, rfl, _, rfl, ?_⟩
      by_cases h1 : ds[i].1 ≤ n
      · refine iteDT (by omega) ⟨_, rfl, _, rfl, b, _, rfl, .inr (.inl (.inl eb)), _, _, rfl, rfl, _, _, rfl, rfl, _, rfl, ?_⟩
        by_cases h2 : n < ds[i].1 + ds[i].2.length
        · refine iteDT (by rw [List.length_map]; omega) ?_
          rw [if_pos ⟨h1, h2⟩] at hlk
          have h3 : n - ds[i].1 < ds[i].2.length := by omega
          rw [List.getElem?_eq_getElem h3] at hlk
          refine ⟨_, rfl, _, rfl, _, rfl, _, _, rfl, rfl, b, _, _, .int (ds[i].2[n - ds[i].1]), rfl, rfl, .inl (.inl eb), ?_, ?_⟩
          · rw [show (n : Int) - (ds[i].1 : Int) = ((n - ds[i].1 : Nat) : Int) by omega]
            exact atI_nat (by rw [List.getElem?_map, List.getElem?_eq_getElem h3]; rfl)
          · rw [hlk] at q
            exact q
        · refine iteDF (by rw [List.length_map]; omega) ?_
          rw [if_neg (fun z => h2 z.2)] at hlk
          exact ⟨_, _, rfl, rfl, hlk⟩
      · refine iteDF (by omega) ⟨_, rfl, iteF ?_⟩
        rw [if_neg (fun z => h1 z.1)] at hlk
        exact ⟨_, _, rfl, rfl, hlk⟩
    · obtain ⟨y2, y3, rfl, rfl, hlk⟩ := h
      rw [List.drop_of_length_le (by rw [hzl]; exact Nat.le_refl _)] at hlk
      rw [hlk] at q
      exact q
abbrev N_Image_size : List Str := ["self", "place", "row"]
theorem sc_Image_size : FnScope N_Image_size ["self"] (defScope s_Image_size) := ⟨rfl, rfl, rfl, by decide +kernel, rfl, by decide +kernel, by decide +kernel⟩
def sp_Image_size (C : Addr) : Sp := fun vs H Q _ => ∃ (x : Addr) (ds : List Part), vs = [.ref x] ∧ ImgAt C H x ds ∧ ds.length ≤ 1000 ∧ ∀ H', Same H H' → Q (.int ((cellsM ds).length : Nat)) H'
theorem prp_Image_size (T : Tx w K mg) : ∃ fd, FnOk P w K mg base L2.CX0 1 (getAd K) fd ["self"] (sp_Image_size (He.ga K "Image")) ∧ Binds K fd ["self"] [] := by
  refine prop_of (st := s_Image_size) (ps := ["self"]) T.d_size sc_Image_size (fun _ _ _ _ _ _ us hl => match us, hl with | [_], _ => rfl) (fun vs H Q E h => ?_) (fun cdv A outer s H vs Q E hr h => ?_)
  · obtain ⟨x, ds, rfl, _⟩ := h
    rfl
  · obtain ⟨x, ds, rfl, ⟨dx, p, ex, zs, ep, hZ⟩, hlen, q⟩ := h
    refine ⟨_, (pss_one (ps_ret (pe_callB (cr_sum rfl) (by rfl) T.f_sum (by decide +kernel) (pa_cons (pe_lc (own := [("place", 1), ("row", 2)]) (g := gTup K 2 (gCons (gName 1) (gCons (gName 2) (gNil)))) (tt := tYes) rfl sc_Image_size.nd (pi_tup (pe_fld (pv 0) rfl)) (blkOk_by (own := [("place", 1), ("row", 2)]) (N := N_Image_size) (sc := defScope s_Image_size) (by decide +kernel)) (fun _ _ _ _ _ => pg_tup rfl (pgs_cons (pg_name (i := 1) sc_Image_size.nd rfl (Or.inl rfl)) (pgs_cons (pg_name (i := 2) sc_Image_size.nd rfl (Or.inl rfl)) pgs_nil))) (fun _ _ _ _ _ => pts_nil) (fun _ _ _ _ _ => (pe_callB (clenK (K := K) (by rfl)) (by rfl) T.f_len (by decide +kernel) (pa_cons (pv 2) pa_nil)))) pa_nil)))), ?_⟩
    have hzl := hZ.1
    refine ⟨_, rfl, x, _, dx, _, _, rfl, ex, T.cl_Image, T.na_Image_own_parts, own_look _, p, rfl, ⟨_, .inl (.inl ep)⟩, fun D hD => ?_⟩
    refine lc_vals (walk_tup (xs := zs)) hD (by rw [hzl]; omega) (fun i => .int ((((ds.map fun d => d.2.length).getD i 0 : Nat)) : Int)) (fun H3 s3 => .inl (.inl (s3 _ _ ep))) (fun i x H3 H4 C Cf hi s3 y k => ?_) (fun H3 s3 e3 => ?_)
    · obtain ⟨rfl, hx⟩ := y
      have hi2 : i < ds.length := by rw [← hzl]; exact hi
      obtain ⟨a, b, rfl, ea, eb⟩ := hZ.2 i x _ hx (List.getElem?_eq_getElem hi2)
      refine ⟨a, _, rfl, .inl (.inl (s3 _ _ ea)), rfl, _, _, rfl, _, _, rfl, rfl, rfl, yes_in ?_⟩
      refine ⟨_, rfl, b, _, rfl, .inr (.inl (.inl (s3 _ _ eb))), ?_⟩
      have h1 := k _ (Same.refl _)
      rw [List.getD_eq_getElem?_getD, List.getElem?_map, List.getElem?_eq_getElem hi2] at h1
      rw [List.length_map]
      exact h1
    · have e4 : H3 D = some (.lst (((ds.map fun d => d.2.length).map fun j : Nat => (j : Int)).map V.int)) := by
        rw [e3, hzl, show ds.length = (ds.map fun d => d.2.length).length by rw [List.length_map]]
        exact congrArg (fun z => some (HO.lst z)) ((range_map (ds.map fun d => d.2.length) (fun j : Nat => V.int (j : Int)) 0).trans (by simp [List.map_map, Function.comp_def]))
      refine ⟨D, _, rfl, .inl (.inl e4), ?_⟩
      have hs : ((ds.map fun d => d.2.length).map fun j : Nat => (j : Int)).sum = (((cellsM ds).length : Nat) : Int) := by
        rw [← cells_count]
        have go : ∀ l : List Nat, (l.map fun j : Nat => (j : Int)).sum = ((l.sum : Nat) : Int) := fun l => by
          induction l with
          | nil => rfl
          | cons a l ih => rw [List.map_cons, List.sum_cons, List.sum_cons, ih]; omega
        exact go _
      rw [hs]
      exact q _ s3
abbrev N_Image_eq : List Str := ["self", "other"]
theorem sc_Image_eq : FnScope N_Image_eq ["self", "other"] (defScope s_Image_eq) := ⟨rfl, rfl, rfl, by decide +kernel, rfl, by decide +kernel, by decide +kernel⟩
def REq (C : Addr) (a b : Addr) (H : Hp) : Prop := ∃ ds, ImgAt C H a ds ∧ ImgAt C H b ds
def sp_Image_eq (C : Addr) : Sp := spEq (REq C)
theorem met_Image_eq (T : Tx w K mg) : C8.Met P w K mg base 1 (He.ga K "Image") "__eq__" (sp_Image_eq (He.ga K "Image")) [] := by
  refine met_of (st := s_Image_eq) (ps := ["self", "other"]) T.cl_Image T.me_Image_eq T.d_Image_eq sc_Image_eq (fun _ _ _ _ _ _ us hl => match us, hl with | [_, _], _ => rfl) (fun vs H Q E h => ?_) (fun cdv A outer s H vs Q E hr h => ?_)
  · obtain ⟨a, b, rfl, _⟩ := h
    rfl
  · obtain ⟨a, b, rfl, ⟨ds, ⟨dx, p, ex, zs, ep, hZ⟩, ⟨dx2, p2, ex2, zs2, ep2, hZ2⟩⟩, q⟩ := h
    refine ⟨_, (pss_one (ps_ret (pe_and (pe_callB (call_isC T.ins_Image) (by rfl) T.f_isinstance (by decide +kernel) (pa_cons (pv 1) (pa_cons (pe_gc (by rfl) T.v_Image) pa_nil))) (pe_one (pe_cmpR (op_eqD hr.units) (pe_fld (pv 0) rfl) (pe_fld (pv 1) rfl) (nomark _)))))), ?_⟩
    refine ⟨_, rfl, b, dx2, _, rfl, ex2, _, rfl, iteT ?_⟩
    refine ⟨_, rfl, a, _, dx, _, _, rfl, ex, T.cl_Image, T.na_Image_own_parts, own_look _, _, rfl, b, _, dx2, _, _, rfl, ex2, T.cl_Image, T.na_Image_own_parts, own_look _, ?_⟩
    refine ⟨_, _, .tup (.inl (.inl ep)) (dp_partsT K hZ), .tup (.inl (.inl ep2)) (dp_partsT K hZ2), (sh_partsT ds).shaped (by decide), (sh_partsT ds).shaped (by decide), ?_⟩
    rw [(sh_partsT ds).refl]
    exact q _ Ext.rfl'
end
end K21
/-! ## WS -/
set_option Elab.async false
set_option linter.all false
set_option maxRecDepth 100000
set_option maxHeartbeats 4000000
namespace K21
open PySem PySem.Spec PyProof.Rows L2 C8
local macro_rules | `(tactic| walk_at "adv") => `(tactic| repeat (first | refine ⟨_, rfl, ?_⟩ | refine ⟨rfl, ?_⟩ | refine ⟨_, _, rfl, rfl, ?_⟩ | refine iteT ?_ | refine iteF ?_))

def PairV (y : V) (c : Str × Int) (H : Hp) : Prop := ∃ a, y = .ref a ∧ H a = some (.tup [.str c.1, .int c.2])
theorem PairV.keep {Sx : List Addr} {H H' : Hp} (n : NoTup Sx H) (k : Keep Sx H H') {y : V} {c : Str × Int} (h : PairV y c H) : PairV y c H' := by
  obtain ⟨a, e, h1⟩ := h
  exact ⟨a, e, k _ _ (n.out h1) h1⟩
def kSI (H : Hp) : V → Str × Int
  | .ref a => match H a with
    | some (.tup [.str s, .int j]) => (s, j)
    | _ => ("", 0)
  | _ => ("", 0)
theorem kSI_pair {H : Hp} {y : V} {c : Str × Int} (h : PairV y c H) : kSI H y = c := by
  obtain ⟨a, rfl, e⟩ := h
  unfold kSI
  dsimp only
  rw [e]
def namesP (ns : List Nm) : List (Str × Int) := ns.map fun n => (S n.1, n.2.2)
/-- a sorted order of pairs on the heap, told as data -/
theorem pairs_sorted {H : Hp} {xs ys : List V} {cs : List (Str × Int)} (h : Each PairV H xs cs) (h1 : SrtO.Srtd (fun x y => lexSI (kSI H x) (kSI H y)) ys) (h2 : SrtO.Stb (fun x y => lexSI (kSI H x) (kSI H y)) ys xs) : ∃ ds, Each PairV H ys ds ∧ SrtO.Srtd lexSI ds ∧ ds.Perm cs := by
  have hx : ∀ x ∈ xs, ∃ a, x = V.ref a ∧ H a = some (.tup [.str (kSI H x).1, .int (kSI H x).2]) := fun x m => by
    obtain ⟨c, _, hc⟩ := h.all x m
    have e := kSI_pair hc
    rw [e]
    exact hc
  have ec : xs.map (kSI H) = cs := by
    refine List.ext_getElem? fun i => ?_
    rw [List.getElem?_map]
    have hl := h.1
    by_cases hi : i < xs.length
    · rw [List.getElem?_eq_getElem hi, List.getElem?_eq_getElem (show i < cs.length by omega)]
      exact congrArg some (kSI_pair (h.2 i _ _ (List.getElem?_eq_getElem hi) (List.getElem?_eq_getElem (by omega))))
    · rw [List.getElem?_eq_none (by omega), List.getElem?_eq_none (by omega)]
      rfl
  refine ⟨ys.map (kSI H), ⟨by rw [List.length_map], fun i y d a b => ?_⟩, SrtO.srtd_map h1, by rw [← ec]; exact h2.perm.map _⟩
  rw [List.getElem?_map, a] at b
  obtain rfl := (Option.some.inj b).symm
  exact hx y (h2.perm.mem_iff.mp (List.mem_of_getElem? a))
def GoodR (z : Str) (ns : List Nm) (cs : List Cell) : Prop := ∃ ps, GoneR z ns ps ∧ (∀ d ∈ ps, PartOk d) ∧ AscC cs ∧ cs = cellsM ps ∧ cs.length ≤ 1000 ∧ ps.length ≤ 1000 ∧ ns.length ≤ 1000 ∧ (ns.map (·.1)).Nodup
theorem look_mem {ns : List Nm} (h : (ns.map (·.1)).Nodup) : ∀ n ∈ ns, look ns n.1 = some n.2 := by
  induction ns with
  | nil => intro n m; cases m
  | cons a ns ih =>
    intro n m
    rw [look_cons]
    rcases List.mem_cons.mp m with e | m
    · rw [e, if_pos rfl]
    · have hn := (List.nodup_cons.mp h).1
      rw [if_neg (fun z => hn (List.mem_map.mpr ⟨n, m, z.symm⟩))]
      exact ih (List.nodup_cons.mp h).2 n m
theorem nodup_val {H : Hp} {ns : List Nm} {kvs : List (Key × V)} (h : (ns.map (·.1)).Nodup) (p : Paired (NmR H) ns kvs) {i : Nat} {n : Nm} {v : V} (hn : ns[i]? = some n) (hk : kvs[i]? = some (.inr (S n.1), v)) : some v = valV kvs (.inr (S n.1)) := by
  induction p generalizing i with
  | nil => cases hn
  | @cons a kv ns kvs r _ ih =>
    cases i with
    | zero =>
      have e : kv = (.inr (S n.1), v) := Option.some.inj hk
      rw [e, valV_pos rfl]
    | succ i =>
      have hn2 : ns[i]? = some n := hn
      have ne : ¬ kv.1 = .inr (S n.1) := fun z => by
        rw [r.1] at z
        exact (List.nodup_cons.mp h).1 (List.mem_map.mpr ⟨n, List.mem_of_getElem? hn2, (S_inj (Sum.inr.inj z)).symm⟩)
      rw [valV_neg ne]
      exact ih (List.nodup_cons.mp h).2 hn2 hk
theorem paired_at {α β : Type} {F : α → β → Prop} {xs : List α} {ys : List β} (h : Paired F xs ys) : ∀ {i : Nat} {x : α}, xs[i]? = some x → ∃ y, ys[i]? = some y ∧ F x y := by
  induction h with
  | nil => intro i x e; cases e
  | cons r _ ih =>
    intro i x e
    cases i with
    | zero => exact ⟨_, rfl, by rw [← Option.some.inj e]; exact r⟩
    | succ i => exact ih e
theorem each_some {F : Addr → Prop} {H H' : Hp} (s : Same H H') {ys : List V} {ps : List Part} (h : Each (PartV F) H ys ps) : Each (PartV F) H' ys ps := h.imp fun y d r => by
  obtain ⟨a, b, e, g1, f, g2⟩ := r
  exact ⟨a, b, e, s _ _ g1, f, s _ _ g2⟩

section
variable {P : Program} {w : World} {K : PySem.W.Frag} {mg : Str → Option Value} {base : Heap}
abbrev N_want_right : List Str := ["text", "bad", "layout", "parts"]
theorem sc_want_right : FnScope N_want_right ["text"] (defScope s_want_right) := ⟨rfl, rfl, rfl, by decide +kernel, rfl, by decide +kernel, by decide +kernel⟩
def sp_want_right (C : Addr) : Sp := fun vs H Q _ => ∃ (z : Str) (ns : List Nm) (ps : List Part), vs = [.str z] ∧ GoneR z ns ps ∧
  ∀ H' p x dx fs N Pa, Same H H' → H' p = some (.tup [.ref x, .ref Pa]) → H' x = some (.ins C dx fs) → fs.lookup ("own_names" : Str) = some (.ref N) → NamesAt H' N ns → (∃ ys, H' Pa = some (.lst ys) ∧ Each (PartV fun _ => True) H' ys ps) → Q (.ref p) H'
theorem cal_want_right (T : Tx w K mg) : C8.Cal P w K mg base 9 "want_right" (sp_want_right (He.ga K "Layout")) [] := by
  have c_gone_through := cal_gone_through (P := P) (base := base) T
  have c_want_text := cal_want_text (P := P) (base := base) T
  refine cal_of (st := s_want_right) (ps := ["text"]) T.d_want_right T.m_want_right sc_want_right (fun _ _ _ _ _ _ us hl => match us, hl with | [_], _ => rfl) (fun vs H Q E h => ?_) (fun cdv A outer s H vs Q E hr h => ?_)
  · obtain ⟨z, ns, ps, rfl, _⟩ := h
    rfl
  · obtain ⟨z, ns, ps, rfl, hG, q⟩ := h
    refine ⟨_, (pss_cons (ps_asg (pe_c c_gone_through hr (by decide) (by rfl) (pa_cons (pe_c c_want_text hr (by decide) (by rfl) (pa_cons (pv 0) pa_nil)) pa_nil)) (pg_tup rfl (pgs_cons (pg_name (i := 1) sc_want_right.nd rfl (Or.inl rfl)) (pgs_cons (pg_name (i := 2) sc_want_right.nd rfl (Or.inl rfl)) (pgs_cons (pg_name (i := 3) sc_want_right.nd rfl (Or.inl rfl)) pgs_nil)))))
      (pss_cons (ps_if (pt_cmpR op_notN (pv 1) pe_non (nomark _))
        (pss_one ps_never)
        pss_nil)
      (pss_one (ps_ret (pe_tup (pa_cons (pv 2) (pa_cons (pv 3) pa_nil))))))), ?_⟩
    refine ⟨_, rfl, z, rfl, z, ns, ps, rfl, hG, fun H1 p x dx fs N Pa s1 np ep ex hf hN hP => ?_⟩
    refine ⟨p, _, rfl, .inl (.inl ep), rfl, _, _, rfl, _, _, rfl, _, _, rfl, rfl, ?_⟩
    refine ⟨_, rfl, rfl, _, rfl, iteF ?_⟩
    refine ⟨_, rfl, _, rfl, sz (by show 2 ≤ 1000000; decide), fun t nt => ?_⟩
    generalize hH : upd _ t _ = H2
    have s2 := new_same hH nt
    have e2 := new_at hH
    obtain ⟨ys, eP, hE⟩ := hP
    exact q H2 t x dx fs N Pa (s1.trans s2) e2 (s2 _ _ ex) hf (hN.keep NoTup.nil (Keep.of_same s2) (by simp)) ⟨ys, s2 _ _ eP, each_some s2 hE⟩
abbrev N_laid_text : List Str := ["text"]
theorem sc_laid_text : FnScope N_laid_text ["text"] (defScope s_laid_text) := ⟨rfl, rfl, rfl, by decide +kernel, rfl, by decide +kernel, by decide +kernel⟩
def sp_laid_text (C : Addr) : Sp := fun vs H Q _ => ∃ (z : Str) (ns : List Nm) (cs : List Cell), vs = [.str z] ∧ GoodR z ns cs ∧ ∀ H' x, Same H H' → ImgAt C H' x (mergeM cs) → Q (.ref x) H'
theorem cal_laid_text (T : Tx w K mg) : C8.Cal P w K mg base 10 "laid_text" (sp_laid_text (He.ga K "Image")) [] := by
  have m_Image := mak_Image (P := P) (base := base) T
  have c_want_right := cal_want_right (P := P) (base := base) T
  refine cal_of (st := s_laid_text) (ps := ["text"]) T.d_laid_text T.m_laid_text sc_laid_text (fun _ _ _ _ _ _ us hl => match us, hl with | [_], _ => rfl) (fun vs H Q E h => ?_) (fun cdv A outer s H vs Q E hr h => ?_)
  · obtain ⟨z, ns, cs, rfl, _⟩ := h
    rfl
  · obtain ⟨z, ns, cs, rfl, ⟨ps, hG, hok, hasc, rfl, hcl, hpl, hnl, hnd⟩, q⟩ := h
    refine ⟨_, (pss_one (ps_ret (pe_mk m_Image hr (by decide) (by rfl) (pa_cons (pe_ix ix_tup (pe_c c_want_right hr (by decide) (by rfl) (pa_cons (pv 0) pa_nil)) pe_int (fun _ _ => rfl)) pa_nil)))), ?_⟩
    refine ⟨_, rfl, z, ns, ps, rfl, hG, fun H1 p x dx fs N Pa s1 ep ex hf hN hP => ?_⟩
    obtain ⟨ys, eP, hE⟩ := hP
    refine ⟨p, _, 1, _, rfl, rfl, .inl (.inl ep), atI_nat (j := 1) rfl, ?_⟩
    refine fun y dy ny ndy hyd => ?_
    have s2 : Same H1 (upd (upd H1 dy (.own y)) y (.ins (He.ga K "Image") dy [])) := fun b o e => by
      rw [upd_ne (ne_of_none e ny), upd_ne (ne_of_none e ndy)]
      exact e
    refine ⟨y, dy, Pa, ys, _, ps, rfl, upd_same, s2 _ _ eP, each_some s2 hE, hok, hasc, hcl, hpl, fun H3 k3 hI => ⟨rfl, ?_⟩⟩
    refine q H3 y (fun b o e => ?_) hI
    have e1 := s1 _ _ e
    exact k3 b o (by simp [ne_of_none e1 ny]) (s2 _ _ e1)
abbrev N_assembled : List Str := ["text"]
theorem sc_assembled : FnScope N_assembled ["text"] (defScope s_assembled) := ⟨rfl, rfl, rfl, by decide +kernel, rfl, by decide +kernel, by decide +kernel⟩
def sp_assembled (C : Addr) : Sp := fun vs H Q _ => ∃ (z : Str) (ns : List Nm) (cs : List Cell), vs = [.str z] ∧ GoodR z ns cs ∧ ∀ H' x, Same H H' → ImgAt C H' x (mergeM cs) → Q (.ref x) H'
theorem bod_assembled (T : Tx w K mg) : BodyOk P w K mg base 10 (He.ga K "assembled") "assembled" s_assembled N_assembled (sp_assembled (He.ga K "Image")) := by
  have c_laid_text := cal_laid_text (P := P) (base := base) T
  intro cdv A outer s H vs Q E hr h
  · obtain ⟨z, ns, cs, rfl, hG, q⟩ := h
    refine ⟨_, (pss_one (ps_ret (pe_c c_laid_text hr (by decide) (by rfl) (pa_cons (pv 0) pa_nil)))), ?_⟩
    exact ⟨_, rfl, z, ns, cs, rfl, hG, q⟩
theorem cal_assembled (T : Tx w K mg) : C8.Cal P w K mg base 11 "assembled" (sp_assembled (He.ga K "Image")) [] := cal_of (st := s_assembled) (ps := ["text"]) T.d_assembled T.m_assembled sc_assembled (fun _ _ _ _ _ _ us hl => match us, hl with | [_], _ => rfl) (fun vs H Q E h => by
  obtain ⟨z, ns, cs, rfl, _⟩ := h
  rfl) (bod_assembled T)
theorem calk_assembled (T : Tx w K mg) : CalK P w K mg base 11 "assembled" "text" (sp_assembled (He.ga K "Image")) := calk_of (st := s_assembled) T.d_assembled T.m_assembled sc_assembled (fun _ _ _ _ _ _ us ws hl => by
  match us, ws, hl with
  | [], [_], _ => rfl
  | [_], [], _ => rfl
  | [], [], h => cases h
  | [], _ :: _ :: _, h => simp at h
  | _ :: _ :: _, _, h => simp at h
  | [_], _ :: _, h => simp at h) (fun vs H Q E h => by
  obtain ⟨z, ns, cs, rfl, _⟩ := h
  rfl) (bod_assembled T)
abbrev N_first_bad : List Str := ["text"]
theorem sc_first_bad : FnScope N_first_bad ["text"] (defScope s_first_bad) := ⟨rfl, rfl, rfl, by decide +kernel, rfl, by decide +kernel, by decide +kernel⟩
def sp_first_bad : Sp := fun vs H Q _ => ∃ (z : Str) (ns : List Nm) (ps : List Part), vs = [.str z] ∧ GoneR z ns ps ∧ ∀ H', Same H H' → Q .non H'
theorem bod_first_bad (T : Tx w K mg) : BodyOk P w K mg base 8 (He.ga K "first_bad") "first_bad" s_first_bad N_first_bad sp_first_bad := by
  have c_gone_through := cal_gone_through (P := P) (base := base) T
  have c_want_text := cal_want_text (P := P) (base := base) T
  intro cdv A outer s H vs Q E hr h
  · obtain ⟨z, ns, ps, rfl, hG, q⟩ := h
    refine ⟨_, (pss_one (ps_ret (pe_ix ix_tup (pe_c c_gone_through hr (by decide) (by rfl) (pa_cons (pe_c c_want_text hr (by decide) (by rfl) (pa_cons (pv 0) pa_nil)) pa_nil)) pe_int (fun _ _ => rfl)))), ?_⟩
    refine ⟨_, rfl, z, rfl, z, ns, ps, rfl, hG, fun H1 p x dx fs N Pa s1 np ep ex hf hN hP => ?_⟩
    exact ⟨p, _, 0, _, rfl, rfl, .inl (.inl ep), atI_nat (j := 0) rfl, q _ s1⟩
theorem cal_first_bad (T : Tx w K mg) : C8.Cal P w K mg base 9 "first_bad" sp_first_bad [] := cal_of (st := s_first_bad) (ps := ["text"]) T.d_first_bad T.m_first_bad sc_first_bad (fun _ _ _ _ _ _ us hl => match us, hl with | [_], _ => rfl) (fun vs H Q E h => by
  obtain ⟨z, ns, ps, rfl, _⟩ := h
  rfl) (bod_first_bad T)
theorem calk_first_bad (T : Tx w K mg) : CalK P w K mg base 9 "first_bad" "text" sp_first_bad := calk_of (st := s_first_bad) T.d_first_bad T.m_first_bad sc_first_bad (fun _ _ _ _ _ _ us ws hl => by
  match us, ws, hl with
  | [], [_], _ => rfl
  | [_], [], _ => rfl
  | [], [], h => cases h
  | [], _ :: _ :: _, h => simp at h
  | _ :: _ :: _, _, h => simp at h
  | [_], _ :: _, h => simp at h) (fun vs H Q E h => by
  obtain ⟨z, ns, ps, rfl, _⟩ := h
  rfl) (bod_first_bad T)
abbrev N_names_of : List Str := ["text", "names", "name"]
theorem sc_names_of : FnScope N_names_of ["text"] (defScope s_names_of) := ⟨rfl, rfl, rfl, by decide +kernel, rfl, by decide +kernel, by decide +kernel⟩
def sp_names_of : Sp := fun vs H Q _ => ∃ (z : Str) (ns : List Nm) (cs : List Cell), vs = [.str z] ∧ GoodR z ns cs ∧ ∀ H' D ys ds, Same H H' → H' D = some (.lst ys) → Each PairV H' ys ds → SrtO.Srtd lexSI ds → ds.Perm (namesP ns) → Q (.ref D) H'
theorem bod_names_of (T : Tx w K mg) : BodyOk P w K mg base 9 (He.ga K "names_of") "names_of" s_names_of N_names_of sp_names_of := by
  have c_want_right := cal_want_right (P := P) (base := base) T
  intro cdv A outer s H vs Q E hr h
  · obtain ⟨z, ns, cs, rfl, ⟨ps, hG, hok, hasc, rfl, hcl, hpl, hnl, hnd⟩, q⟩ := h
    refine ⟨_, (pss_cons (ps_set (i := 1) sc_names_of.nd rfl (Or.inr rfl) (pe_fld (pe_ix ix_tup (pe_c c_want_right hr (by decide) (by rfl) (pa_cons (pv 0) pa_nil)) pe_int (fun _ _ => rfl)) rfl))
      (pss_one (ps_ret (pe_callB cr_sortedSI (by rfl) T.f_sorted (by decide +kernel) (pa_cons (pe_lock (pe_lc (own := [("name", 2)]) (g := gName 2) (tt := tYes) rfl sc_names_of.nd (pi_keys (pv 1)) (blkOk_by (own := [("name", 2)]) (N := N_names_of) (sc := defScope s_names_of) (by decide +kernel)) (fun _ _ _ _ _ => pg_name (i := 2) sc_names_of.nd rfl (Or.inl rfl)) (fun _ _ _ _ _ => pts_nil) (fun _ _ _ _ _ => (pe_tup (pa_cons (pv 2) (pa_cons (pe_ix (ixtK (K := K) (by rfl)) (pe_dget (by exact hu_of hr) (pv 1) (pv 2) (fun _ _ => rfl)) pe_int (fun _ _ => rfl)) pa_nil)))))) pa_nil))))), ?_⟩
    refine ⟨_, rfl, z, ns, ps, rfl, hG, fun H1 p x dx fs N Pa s1 ep ex hf hN hP => ?_⟩
    refine ⟨p, _, 0, _, rfl, rfl, .inl (.inl ep), atI_nat (j := 0) rfl, x, _, dx, fs, _, rfl, ex, T.cl_Layout, T.na_Layout_own_names, hf, ?_⟩
    obtain ⟨kvs, eN, pN⟩ := hN
    have hkl := names_len pN
    refine ⟨N, _, eN, trivial, fun od => ?_⟩
    generalize hH : upd H1 N _ = H2
    have k2 : Keep [N] H1 H2 := by rw [← hH]; exact Keep.put (by simp)
    have e2 : H2 N = some (.frz od (.dK kvs)) := new_at hH
    refine ⟨_, rfl, N, od, rfl, .inl ⟨kvs, e2, fun D hD => ?_⟩⟩
    have hat : ∀ (i : Nat) (kv : Key × V), kvs[i]? = some kv → ∃ n, ns[i]? = some n ∧ NmR H1 n kv := fun i kv hi => by
      have hlt : i < kvs.length := (List.getElem?_eq_some_iff.mp hi).1
      have h2 : i < ns.length := by omega
      obtain ⟨kv2, h3, r⟩ := paired_at pN (List.getElem?_eq_getElem h2)
      rw [hi] at h3
      rw [Option.some.inj h3]
      exact ⟨_, List.getElem?_eq_getElem h2, r⟩
    refine lc_pure walk_keys hD (by omega) (fun i y H => ∀ n, ns[i]? = some n → PairV y (S n.1, n.2.2) H) (fun H3 s3 => s3 _ _ e2) (fun i y H3 H4 hl k h d hd => (h d hd).keep (NoTup.one hl.choose_spec) k) (fun i y H3 H4 C Cf hi s3 hacc hy k => ?_) (fun H3 ys s3 hl e3 hr => ?_)
    · obtain ⟨rfl, key, v, hkv, rfl⟩ := hy
      obtain ⟨n, hn, hk, t, hv, et⟩ := hat i _ hkv
      dsimp only at hk hv
      subst hk hv
      have et4 : H4 t = some (.tup [.str (sortS n.2.1), .int n.2.2]) := s3 _ _ (k2.one (ne_of et eN (by intro z; cases z)) et)
      have hlook := look_mem hnd n (List.mem_of_getElem? hn)
      refine ⟨rfl, yes_in ⟨_, rfl, _, rfl, _, rfl, N, .ref t, rfl, .inl ⟨kvs, .inr (S n.1), .inr ⟨od, s3 _ _ e2⟩, rfl, ?_⟩, t, _, 1, .int n.2.2, rfl, rfl, .inl (.inl et4), atI_nat (j := 1) rfl, sz (by show 2 ≤ 1000000; decide), fun u nu => ?_⟩⟩
      · rcases names_look pN n.1 with ⟨h, _⟩ | ⟨z2, t2, h1, h2, h3⟩
        · rw [hlook] at h; cases h
        · rw [h2]
          have h5 := nodup_val hnd pN hn hkv
          rw [h2] at h5
          exact h5
      · generalize hH : upd _ u _ = H5
        have s5 := new_same hH nu
        have e5 := new_at hH
        refine k _ H5 s5 fun m hm => ?_
        rw [hn] at hm
        rw [← Option.some.inj hm]
        exact ⟨u, rfl, e5⟩
    · refine ⟨s3 _ _ e2, ?_⟩
      generalize hH4 : upd H3 N _ = H4
      have k4 : Keep [N] H3 H4 := by rw [← hH4]; exact Keep.put (by simp)
      have e4 : H4 N = some (.dK kvs) := new_at hH4
      have n3 : NoTup [N] H3 := fun a m xs e => by
        have : a = N := by simpa using m
        rw [this, s3 _ _ e2] at e
        cases e
      have s14 : Same H1 H4 := fun b o e => by
        by_cases hb : b = N
        · rw [hb, eN] at e
          rw [hb, e4, Option.some.inj e]
        · exact k4.one hb (s3 _ _ (k2.one hb e))
      have DN : D ≠ N := fun z => by rw [z, e2] at hD; cases hD
      have hE4 : Each PairV H4 ys (namesP ns) := by
        refine ⟨by rw [hl, hkl]; exact (List.length_map ..).symm, fun i y d h1 h2 => ?_⟩
        unfold namesP at h2
        rw [List.getElem?_map] at h2
        obtain ⟨n, hn, rfl⟩ := Option.map_eq_some_iff.mp h2
        exact (hr i y h1 n hn).keep n3 k4
      refine ⟨D, ys, kSI H4, rfl, .inl (.inl (k4.one DN e3)), fun y hy => ?_, fun zs r g1 g2 nr => ?_⟩
      · obtain ⟨c, _, hc⟩ := hE4.all y hy
        rw [kSI_pair hc]
        exact hc
      · obtain ⟨ds, f1, f2, f3⟩ := pairs_sorted hE4 g1 g2
        generalize hH5 : upd H4 r _ = H5
        have s5 := new_same hH5 nr
        exact q H5 r zs ds (s1.trans (s14.trans s5)) (new_at hH5) (f1.imp fun y d z => z.keep NoTup.nil (Keep.of_same s5)) f2 f3
theorem cal_names_of (T : Tx w K mg) : C8.Cal P w K mg base 10 "names_of" sp_names_of [] := cal_of (st := s_names_of) (ps := ["text"]) T.d_names_of T.m_names_of sc_names_of (fun _ _ _ _ _ _ us hl => match us, hl with | [_], _ => rfl) (fun vs H Q E h => by
  obtain ⟨z, ns, cs, rfl, _⟩ := h
  rfl) (bod_names_of T)
theorem calk_names_of (T : Tx w K mg) : CalK P w K mg base 10 "names_of" "text" sp_names_of := calk_of (st := s_names_of) T.d_names_of T.m_names_of sc_names_of (fun _ _ _ _ _ _ us ws hl => by
  match us, ws, hl with
  | [], [_], _ => rfl
  | [_], [], _ => rfl
  | [], [], h => cases h
  | [], _ :: _ :: _, h => simp at h
  | _ :: _ :: _, _, h => simp at h
  | [_], _ :: _, h => simp at h) (fun vs H Q E h => by
  obtain ⟨z, ns, cs, rfl, _⟩ := h
  rfl) (bod_names_of T)
end
end K21
/-! ## K21Enum -/
set_option Elab.async false
set_option linter.all false
set_option maxRecDepth 100000
set_option maxHeartbeats 4000000
namespace K21
open PySem PySem.Spec PyProof.Rows L2
/-! enumerate of a tuple -/
theorem meets_enumT (l : Addr) (items : Array Value) : Meets (Builtin.«enumerate.__new__» ⟨[.type "enumerate", .ref l], []⟩) (fun _ R s => s.heap.IsTuple l items ∧
      R (.ok (.ret (.ref (s.heap.push { cls := .type "tuple_iterator", data := .fields #[.ref l, .int 0 0] }).objs.size)))
        { s with heap := (s.heap.push { cls := .type "tuple_iterator", data := .fields #[.ref l, .int 0 0] }).push { cls := .type "enumerate", data := .fields #[.none, .bool false, .ref s.heap.objs.size, rawInt 0, .none, .none] } }) :=
  .of_wp fun prog w A R s h => by
    obtain ⟨hp, g, d, tk, os⟩ := s
    obtain ⟨hl, h⟩ := h
    have hsub := sub_enumerate
    have go : ∀ {A' : Around} {E Q : Value → Shared → Prop}, Q (.ref hp.objs.size) ⟨hp.push { cls := .type "tuple_iterator", data := .fields #[.ref l, .int 0 0] }, g, d, tk, os⟩ → wpAny (model prog w) A' (pyIter (.ref l)) Q E ⟨hp, g, d, tk, os⟩ :=
      fun q => wpAny_pyIter_tuple hl q
    wp_walk using go
    refine wpAny_stack_any fun st => wpAny_pure ?_
    split
    · rename_i c _ _ _ _ _
      cases (c == Value.type "enumerate") <;>
      · wp_walk using go
        exact ⟨_, rfl, h⟩
    · wp_walk using go
      exact ⟨_, rfl, h⟩
theorem call_enumT {prog : Program} {w : World} {A : Around} {E : Value → Shared → Prop} {s : Shared} {l : Addr} {items : Array Value} {Q : Value → Shared → Prop} (hL : s.heap.IsTuple l items)
    (h : ∀ h', IsEnum h' (s.heap.objs.size + 1) s.heap.objs.size 0 .none → h'.IsTupleIter s.heap.objs.size l 0 → (∀ b o, s.heap.get? b = some o → h'.get? b = some o) → Q (.ref (s.heap.objs.size + 1)) { s with heap := h' }) :
    wpAny (model prog w) A (call (.type "enumerate") [.ref l]) Q E s := by
  refine callType_new F.called_enumerate (by decide) (F.typeCall_enumerate_1 _) (F.newCall_enumerate_1 _) (fun obj => F.args_object_init_2 obj _) F.entry_enumerate_new (meets_enumT l items) ⟨hL, ?_⟩
  generalize ho : ({ cls := .type "tuple_iterator", data := .fields #[.ref l, .int 0 0] } : Obj) = o
  have hf : s.heap.push o |>.get? s.heap.objs.size |>.isSome := by rw [← ho, Heap.get?_push_size _ rfl]; rfl
  have hz : (s.heap.push o).objs.size = s.heap.objs.size + 1 := by exact Heap.size_push ..
  show _ ∧ _
  rw [hz]
  have he : IsEnum ((s.heap.push o).push { cls := .type "enumerate", data := .fields #[.none, .bool false, .ref s.heap.objs.size, rawInt 0, .none, .none] }) (s.heap.objs.size + 1) s.heap.objs.size 0 .none := by
    have e := Heap.get?_push_size (s.heap.push o) (o := { cls := .type "enumerate", data := .fields #[.none, .bool false, .ref s.heap.objs.size, rawInt 0, .none, .none] }) rfl
    rwa [hz] at e
  have hit : (s.heap.push o).get? s.heap.objs.size = some o := by rw [← ho]; exact Heap.get?_push_size _ rfl
  exact ⟨⟨_, he, rfl⟩, h _ he ⟨_, Heap.get?_push_of_some _ hit, by rw [← ho], by rw [← ho]; rfl⟩ fun b u x => Heap.get?_push_of_some _ (Heap.get?_push_of_some _ x)⟩
def IteT (K : PySem.W.Frag) (a : Addr) : It :=
  ⟨fun i H => ∃ (xs : List V) (x : V), SqT K H a xs ∧ xs[i]? = some x, fun i H v H' => ∃ T x, v = .ref T ∧ H T = none ∧ H' = upd H T (.tup [.int (i : Nat), x]) ∧ ∀ xs, SqT K H a xs → xs[i]? = some x, fun i H => ∃ xs : List V, SqT K H a xs ∧ xs.length ≤ i⟩
theorem turn_enumT {P : Program} {w : World} {K : PySem.W.Frag} {elts : List Expr} {kk : Nat} {tpos : Pos} (a e it : Addr) (hai : a ≠ it) (hae : a ≠ e) :
    Turn P w K (.Tuple elts kk tpos) (IteT K a) [e, it] e (fun i h => (∃ old, IsEnum h e it ((i : Nat) : Int) old) ∧ h.IsTupleIter it a i ∧ e ≠ it) where
  mem := by simp
  obj := by
    rintro i h ⟨⟨old, he⟩, ⟨o, ho, hc, hd⟩, _⟩ b hb
    rcases (show b = e ∨ b = it by simpa using hb) with rfl | rfl
    · exact ⟨_, he, fun v q => nomatch q⟩
    · exact ⟨o, ho, fun v q => by rw [hd] at q; cases q⟩
  keep := by
    rintro i h h' ⟨⟨old, he⟩, hi, hne⟩ k
    exact ⟨⟨old, k e (by simp) _ he⟩, hi.at fun o q => k it (by simp) o q, hne⟩
  item := by
    intro X hP hw hK hc i pins s σ H E I hf st hg
    subst hP hw hK
    obtain ⟨⟨old, he⟩, hit, hne⟩ := st
    obtain ⟨xs, x, hq, hx⟩ := hg
    obtain ⟨its, rv, p, hz⟩ := I.tuple hq
    obtain ⟨u, hu, ru⟩ := rv.get hx
    have hel := Heap.lt_size he
    have hil : it < s.heap.objs.size := Heap.lt_size hit.choose_spec.1
    have hlt : i < its.toArray.size := by
      rw [List.size_toArray]
      exact (List.getElem?_eq_some_iff.mp hu).1
    refine wpAny_pyNext_enum_itemD (Draws.tuple (prog := X.prog) (w := X.w) (A := X.A.in1) (show X.A.in1.handled = none from I.ok.hd hc) it a hai its.toArray) he ⟨hit, p⟩ hlt hne (by simp [hne, hae.symm]) fun v h' tk hv ho hst hT hsz hk => ?_
    have ev : v = u := by
      have : its[i]? = some v := by simpa using hv
      rw [hu] at this
      exact (Option.some.inj this).symm
    subst ev
    refine ⟨_, rfl, wpAny_letOwnedTupleGo_enum (s := { s with heap := h', toks := tk + 1 }) ho fun h2 he2 sb => ?_⟩
    have hT2 : h2.get? s.heap.objs.size = some { cls := .type "tuple", data := .seq #[.int i tk, v] } := by
      rw [sb.2 _ (Nat.ne_of_gt hel)]
      exact hT
    have new : ObjOk X.prog X.w (upd H s.heap.objs.size (.tup [.int (i : Nat), x])) h2 s.heap.objs.size (.tup [.int (i : Nat), x]) :=
      ⟨sz (by show 2 ≤ 1000000; decide), [.int i tk, v], .cons ⟨_, rfl⟩ (.cons ru .nil), ⟨_, hT2, rfl, _, rfl⟩⟩
    have I1 : Inv X pins σ (upd H s.heap.objs.size (.tup [.int (i : Nat), x])) { s with heap := h2, toks := tk + 1 } :=
      I.turnedNew (ch := [e, it]) (fun b ob hb q => by
        have hb1 : b ≠ e := fun z => hb (by simp [z])
        have hb2 : b ≠ it := fun z => hb (by simp [z])
        rw [sb.2 b hb1]
        exact hk b ob hb1 hb2 q) hf (Nat.le_refl _) new
    refine ⟨.ref s.heap.objs.size, _, I1, rfl, ⟨_, x, rfl, I.hok.fresh (Nat.le_refl _), rfl, fun ys hy => by rw [I.tuple_inj hy hq]; exact hx⟩, ⟨⟨v, ?_⟩, hst.1.at fun o q => (sb.2 it hne.symm).trans q, hne⟩, fun b hb => ?_⟩
    · rw [show ((i + 1 : Nat) : Int) = (i : Int) + 1 by omega]
      exact he2
    · have hb' : b < s.heap.objs.size := by
        rcases (show b = e ∨ b = it by simpa using hb) with rfl | rfl
        · exact hel
        · exact hil
      rw [upd_ne (Nat.ne_of_lt hb')]
      exact (hf b hb).1
  done := by
    intro X hP hw hK hc i pins s σ H E I hf st hg
    subst hP hw hK
    obtain ⟨⟨old, he⟩, hit, hne⟩ := st
    obtain ⟨xs, hq, hx⟩ := hg
    obtain ⟨its, rv, p, hz⟩ := I.tuple hq
    obtain ⟨f0, f1, f2, f3, f4, f5⟩ := hf it (by simp)
    have hl := rv.length
    have hT : s.TypeIs (.ref e) "enumerate" := ⟨_, he, rfl⟩
    unfold pyNext
    refine wpAny_bind (wpAny_attempt (wpAny_callSpecial?_slot (name := Str.ofString "__next__") hT F.slot_enumerate_next (wpAny_call_entry F.slot_enumerate_next hT F.entry_enumerate_next ?_ (F.args_enumerate_next_1 _))))
    show wpAny _ _ (field (.ref e) 2 >>= _) _ _ _
    refine wpAny_bind (wpAny_field he rfl (x := .ref it) rfl ?_)
    refine wpAny_bind (wpAny_nextOf_tuple_end (I.ok.hd hc) hit p (by simp; omega) fun h' x eb hs => ?_)
    obtain ⟨o, ho, hcl⟩ := hs
    exact wpAny_bind (wpAny_isInstance (T := "StopIteration") (b := true) ⟨o, ho, hcl⟩ isSubtype_stop (wpAny_pure ⟨rfl, I.turned (t' := s.toks) (fun b o hb q => eb b o hb q) f0 f1 f3 f4 f5⟩))
  self := by
    rintro A i s Q E ⟨⟨_, he⟩, _⟩ h
    exact wpAny_pyIter_enum he h
def iEnumT (K : PySem.W.Frag) (ta : TA) : TI := fun σ H R => ta σ H fun vs H1 => ∃ a xs, vs = [.ref a] ∧ SqT K H1 a xs ∧ R (IteT K a) H1
theorem pi_enumT {X : Cx} {e : Expr} {ta : TA} {p pos tpos : Pos} {elts : List Expr} {kk : Nat} (hg : Gl X "enumerate") (hm : X.mg "enumerate" = none) (ha : PA X [e] ta) (hs : starEach [e] X.env = [(false, eval e X.env)] := by rfl) : PI X (.Tuple elts kk tpos) (.Call (.Name "enumerate" p) [e] [] pos) (iEnumT X.K ta) := by
  refine ⟨fun pins s σ H R I h => Call_ (ld_blt I hg hm boot_enumerate (PyProof.Rows.callWith_type1 (thn (ha.run pos pins s σ H _ I h) fun us s1 ⟨vs, H1, I1, r1, a, xs, ex, hq, q⟩ => ?_) hs rfl))⟩
  subst ex
  obtain ⟨u, eu, ru⟩ := vals1 r1
  subst eu
  obtain rfl : u = Value.ref a := ru
  obtain ⟨its, rv, p', hz⟩ := I1.tuple hq
  have hal : a < s1.heap.objs.size := Heap.lt_size p'.choose_spec.1
  refine call_enumT p' fun h' he hit hk => wpAny_pyIter_enum he ?_
  have I2 : Inv X pins σ H1 { s1 with heap := h' } := I1.kept (t' := s1.toks) hk
  refine ⟨s1.heap.objs.size + 1, [s1.heap.objs.size + 1, s1.heap.objs.size], _, _, H1, rfl, I2, turn_enumT a (s1.heap.objs.size + 1) s1.heap.objs.size (Nat.ne_of_lt hal) (Nat.ne_of_lt (Nat.lt_succ_of_lt hal)), ⟨⟨.none, he⟩, hit, Nat.succ_ne_self _⟩, fun b hb => ?_, q⟩
  have hle : s1.heap.objs.size ≤ b := by
    rcases (show b = s1.heap.objs.size + 1 ∨ b = s1.heap.objs.size by simpa using hb) with rfl | rfl
    · exact Nat.le_succ _
    · exact Nat.le_refl _
  exact I1.fpOk hle (I1.hok.fresh hle)
theorem walk_enumT {K : PySem.W.Frag} {a : Addr} {xs : List V} : Walk (IteT K a) xs.length (fun H => SqT K H a xs) (YPair (fun i => some (.int (i : Nat))) (fun i => xs[i]?)) := by
  refine ⟨fun i _ hi q => ⟨xs, xs[i], q, List.getElem?_eq_getElem hi⟩, fun _ q => ⟨xs, q, Nat.le_refl _⟩, fun i H v H' _ q y => ?_⟩
  obtain ⟨T, x, h1, h2, h3, h4⟩ := y
  exact ⟨T, .int (i : Nat), x, h1, h2, h3, rfl, h4 xs q⟩
/-! dicts of unlike sizes -/
def rEqDN : R2 := fun x y H Q => ∃ a b ks ls, x = .ref a ∧ y = .ref b ∧ H a = some (.dK ks) ∧ H b = some (.dK ls) ∧ ((ks.length = ls.length → ks = [] ∧ ls = []) ∧ Q (.bl (decide (ks.length = ls.length))) H)
theorem op_eq_dictN {X : Cx} (hu : X.A.units < cLine) : OpR X (compareOp .Eq) rEqDN := by
  intro pins s σ H x y v u Q I rx ry h
  obtain ⟨a, b, ks, ls, rfl, rfl, ea, eb, hl, q⟩ := h
  obtain rfl : v = Value.ref a := rx
  obtain rfl : u = Value.ref b := ry
  obtain ⟨_, ya, va, ra, da⟩ := (show ObjOk X.prog X.w H s.heap a (.dK ks) from I.hok a _ ea)
  obtain ⟨_, yb, vb, rb, db⟩ := (show ObjOk X.prog X.w H s.heap b (.dK ls) from I.hok b _ eb)
  have e1 : ks.length = va.length := ra.length
  have e2 : ls.length = vb.length := rb.length
  refine PySem.W.keq_eq (knd := mixKind X.prog X.w) (r := true) ya yb da db hu (fun z => ?_) (fin_bl I q ?_)
  · obtain ⟨z1, z2⟩ := hl (by omega)
    subst z1 z2
    exact hits_all rb ra (fun p hp => by cases hp)
  · rw [e1, e2, Bool.and_true]
    rfl
end K21
/-! ## WT -/
set_option Elab.async false
set_option linter.all false
set_option maxRecDepth 100000
set_option maxHeartbeats 4000000
namespace K21
open PySem PySem.Spec PyProof.Rows L2 C8
local macro_rules | `(tactic| walk_at "adv") => `(tactic| repeat (first | refine ⟨_, rfl, ?_⟩ | refine ⟨rfl, ?_⟩ | refine ⟨_, _, rfl, rfl, ?_⟩ | refine iteT ?_ | refine iteF ?_))

def PotOk (H : Hp) (p : Addr) : Prop := ∃ a b : Int, H p = some (.lst [.int a, .int b]) ∧ 0 ≤ a ∧ 0 ≤ b ∧ b < 2147483587
theorem PotOk.keep {Sx : List Addr} {H H' : Hp} {p : Addr} (k : Keep Sx H H') (n : p ∉ Sx) (h : PotOk H p) : PotOk H' p := by
  obtain ⟨a, b, e, h⟩ := h
  exact ⟨a, b, k _ _ n e, h⟩
theorem PotOk.same {H H' : Hp} {p : Addr} (s : Same H H') (h : PotOk H p) : PotOk H' p := h.keep (Keep.of_same (S := []) s) (by simp)
theorem PotOk.ref {H : Hp} {p q : Addr} {o : HO} (h : PotOk H p) (e : H q = some o) (n : ∀ a b, o ≠ .lst [.int a, .int b]) : q ≠ p := fun z => by
  obtain ⟨a, b, e2, _⟩ := h
  rw [z, e2] at e
  exact n a b (Option.some.inj e).symm

section
variable {P : Program} {w : World} {K : PySem.W.Frag} {mg : Str → Option Value} {base : Heap}
abbrev N_law_draw : List Str := ["_law_pot_here", "_law_sides", "_law_digit"]
theorem sc_law_draw : FnScope N_law_draw ["_law_pot_here", "_law_sides"] (defScope s_law_draw) := ⟨rfl, rfl, rfl, by decide +kernel, rfl, by decide +kernel, by decide +kernel⟩
def sp_law_draw : Sp := fun vs H Q _ => ∃ (p : Addr) (n : Nat), vs = [.ref p, .int (n : Int)] ∧ PotOk H p ∧ 0 < n ∧ n ≤ 1000 ∧ ∀ (d : Nat) H', d < n → Keep [p] H H' → PotOk H' p → Q (.int (d : Int)) H'
theorem cal_law_draw (T : Tx w K mg) : C8.Cal P w K mg base 1 "_law_draw" sp_law_draw [] := by
  refine cal_of (st := s_law_draw) (ps := ["_law_pot_here", "_law_sides"]) T.d_law_draw T.m_law_draw sc_law_draw (fun _ _ _ _ _ _ us hl => match us, hl with | [_, _], _ => rfl) (fun vs H Q E h => ?_) (fun cdv A outer s H vs Q E hr h => ?_)
  · obtain ⟨p, n, rfl, _⟩ := h
    rfl
  · obtain ⟨p, n, rfl, ⟨a, b, ep, ha, hb, hb2⟩, hn, hn2, q⟩ := h
    refine ⟨_, (pss_cons (ps_if (pt_cmpR op_gt (pe_ix ix_list (pv 0) pe_int (fun _ _ => rfl)) pe_int (nomark _))
        (pss_cons (ps_asg (pe_callB call_divmodW (by rfl) T.f_divmod (by decide +kernel) (pa_cons (pe_ix ix_list (pv 0) pe_int (fun _ _ => rfl)) (pa_cons (pv 1) pa_nil))) (pg_tup rfl (pgs_cons (pg_sub (pv 0) pe_int set_list) (pgs_cons (pg_name (i := 2) sc_law_draw.nd rfl (Or.inl rfl)) pgs_nil))))
        (pss_one (ps_ret (pv 2))))
        pss_nil)
      (pss_cons (ps_asg (pe_op op_mod (pe_callTy call_int1 (by rfl) T.f_int (by decide +kernel) (pa_cons (pe_op op_add (pe_op op_mul (pe_ix ix_list (pv 0) pe_int (fun _ _ => rfl)) pe_int) pe_int) pa_nil)) pe_int) (pg_sub (pv 0) pe_int set_list))
      (pss_one (ps_ret (pe_op op_mod (pe_callTy call_int1 (by rfl) T.f_int (by decide +kernel) (pa_cons (pe_op op_fdiv (pe_op op_mod (pe_callTy call_int1 (by rfl) T.f_int (by decide +kernel) (pa_cons (pe_op op_mul (pe_ix ix_list (pv 0) pe_int (fun _ _ => rfl)) (pe_ix ix_list (pv 0) pe_int (fun _ _ => rfl))) pa_nil)) pe_int) pe_int) pa_nil)) (pv 1)))))), ?_⟩
    have hS : SqL K H p [.int a, .int b] := .inl (.inl ep)
    refine ⟨_, rfl, p, _, 0, .int a, rfl, rfl, hS, atI_nat (j := 0) rfl, _, _, rfl, rfl, _, rfl, ?_⟩
    by_cases h0 : 0 < a
    · refine iteDT h0 ?_
      refine ⟨_, rfl, p, _, 0, .int a, rfl, rfl, hS, atI_nat (j := 0) rfl, _, rfl, a, _, rfl, ⟨by omega, PyProof.noPylong_small (by omega)⟩, fun t nt => ?_⟩
      generalize hH : upd _ t _ = H1
      have s1 := new_same hH nt
      have e1 := new_at hH
      refine ⟨t, _, rfl, .inl (.inl e1), rfl, _, _, rfl, _, rfl, ?_⟩
      refine ⟨p, _, 0, 0, rfl, rfl, s1 _ _ ep, rfl, ?_⟩
      generalize hH : upd H1 p _ = H2
      have k2 : Keep [p] H1 H2 := by rw [← hH]; exact Keep.put (by simp)
      have e2 : H2 p = some (.lst [.int (a / n), .int b]) := new_at hH
      refine ⟨_, _, rfl, rfl, _, rfl, ?_⟩
      have hm0 : 0 ≤ a % (n : Int) := Int.emod_nonneg a (by omega)
      have hm1 : a % (n : Int) < n := Int.emod_lt_of_pos a (by omega)
      have e3 : ((a % (n : Int)).toNat : Int) = a % (n : Int) := Int.toNat_of_nonneg hm0
      have := q (a % (n : Int)).toNat H2 (by omega) ((Keep.of_same s1).trans k2) ⟨_, b, e2, Int.ediv_nonneg ha (by omega), hb, hb2⟩
      rw [e3] at this
      exact this
    · refine iteDF h0 ?_
      delta tNext
      dsimp only
      refine ⟨_, rfl, p, _, 1, .int b, rfl, rfl, hS, atI_nat (j := 1) rfl, _, _, rfl, rfl, .inr ⟨by decide, by decide⟩, _, _, rfl, rfl, .inl ⟨_, rfl, _, _, rfl, rfl, by show (0 : Int) < 2147483587; decide, ?_⟩⟩
      refine ⟨_, rfl, p, _, 1, 1, rfl, rfl, ep, rfl, ?_⟩
      generalize hH : upd H p _ = H2
      have k2 : Keep [p] H H2 := by rw [← hH]; exact Keep.put (by simp)
      have hH3 : upd H p (HO.lst [V.int a, V.int ((b * 40692 + 5119) % 2147483587)]) = H2 := hH
      clear hH
      generalize hc : (b * 40692 + 5119) % 2147483587 = c at hH3
      have hc0 : 0 ≤ c := by rw [← hc]; exact Int.emod_nonneg _ (by decide)
      have hc1 : c < 2147483587 := by rw [← hc]; exact Int.emod_lt_of_pos _ (by decide)
      have e2 : H2 p = some (.lst [.int a, .int c]) := new_at hH3
      have hS2 : SqL K H2 p [.int a, .int c] := .inl (.inl e2)
      refine ⟨_, rfl, p, _, 1, .int c, rfl, rfl, hS2, atI_nat (j := 1) rfl, _, rfl, p, _, 1, .int c, rfl, rfl, hS2, atI_nat (j := 1) rfl, _, _, rfl, rfl, .inl ⟨by omega, by omega⟩, .inl ⟨_, rfl, _, _, rfl, rfl, by show (0 : Int) < 2147483629; decide, _, _, rfl, rfl, ⟨by decide, by decide⟩, .inl ⟨_, rfl, _, rfl, _, _, rfl, rfl, by show (0 : Int) < (n : Int); omega, ?_⟩⟩⟩
      generalize c * c % 2147483629 / 19 = m
      have hm0 : 0 ≤ m % (n : Int) := Int.emod_nonneg m (by omega)
      have hm1 : m % (n : Int) < n := Int.emod_lt_of_pos m (by omega)
      have e3 : ((m % (n : Int)).toNat : Int) = m % (n : Int) := Int.toNat_of_nonneg hm0
      have := q (m % (n : Int)).toNat H2 (by omega) k2 ⟨a, c, e2, ha, hc0, hc1⟩
      rw [e3] at this
      exact this
abbrev N_law_pick : List Str := ["_law_pot_here", "_law_some"]
theorem sc_law_pick : FnScope N_law_pick ["_law_pot_here", "_law_some"] (defScope s_law_pick) := ⟨rfl, rfl, rfl, by decide +kernel, rfl, by decide +kernel, by decide +kernel⟩
def sp_law_pick (K : PySem.W.Frag) : Sp := fun vs H Q _ => ∃ (p L : Addr) (xs : List V), vs = [.ref p, .ref L] ∧ PotOk H p ∧ H L = some (.lst xs) ∧ L ≠ p ∧ 0 < xs.length ∧ xs.length ≤ 1000 ∧ ∀ (d : Nat) (x : V) H', xs[d]? = some x → Keep [p] H H' → PotOk H' p → Q x H'
theorem cal_law_pick (T : Tx w K mg) : C8.Cal P w K mg base 2 "_law_pick" (sp_law_pick K) [] := by
  have c_law_draw := cal_law_draw (P := P) (base := base) T
  refine cal_of (st := s_law_pick) (ps := ["_law_pot_here", "_law_some"]) T.d_law_pick T.m_law_pick sc_law_pick (fun _ _ _ _ _ _ us hl => match us, hl with | [_, _], _ => rfl) (fun vs H Q E h => ?_) (fun cdv A outer s H vs Q E hr h => ?_)
  · obtain ⟨p, L, xs, rfl, _⟩ := h
    rfl
  · obtain ⟨p, L, xs, rfl, hp, eL, Lp, h0, h1, q⟩ := h
    refine ⟨_, (pss_one (ps_ret (pe_ix ix_list (pv 1) (pe_c c_law_draw hr (by decide) (by rfl) (pa_cons (pv 0) (pa_cons (pe_callB call_len_seq (by rfl) T.f_len (by decide +kernel) (pa_cons (pv 1) pa_nil)) pa_nil))) (fun _ _ => rfl)))), ?_⟩
    refine ⟨_, rfl, _, rfl, _, rfl, L, _, rfl, .inl (.inl (.inl eL)), p, xs.length, rfl, hp, h0, h1, fun d H1 hd k1 hp1 => ?_⟩
    have e1 := k1.one Lp eL
    exact ⟨L, xs, _, _, rfl, rfl, .inl (.inl e1), atI_nat (List.getElem?_eq_getElem hd), q d _ H1 (List.getElem?_eq_getElem hd) k1 hp1⟩
abbrev N_law_names : List Str := ["_law_first", "_law_later"]
theorem sc_law_names : FnScope N_law_names [] (defScope s_law_names) := ⟨rfl, rfl, rfl, by decide +kernel, rfl, by decide +kernel, by decide +kernel⟩
def sp_law_names : Sp := fun vs H Q _ => vs = [] ∧ ∀ H' p, Same H H' → H p = none → H' p = some (.lst (opNames.map V.str)) → Q (.ref p) H'
theorem cal_law_names (T : Tx w K mg) : C8.Cal P w K mg base 1 "_law_names" sp_law_names [] := by
  refine cal_of (st := s_law_names) (ps := []) T.d_law_names T.m_law_names sc_law_names (fun _ _ _ _ _ _ us hl => match us, hl with | [], _ => rfl) (fun vs H Q E h => ?_) (fun cdv A outer s H vs Q E hr h => ?_)
  · obtain ⟨rfl, _⟩ := h
    rfl
  · obtain ⟨rfl, q⟩ := h
    refine ⟨_, (pss_cons (ps_set (i := 0) sc_law_names.nd rfl (Or.inl rfl) (pe_lst (pa_cons pe_str (pa_cons pe_str (pa_cons pe_str (pa_cons pe_str (pa_cons pe_str (pa_cons pe_str (pa_cons pe_str (pa_cons pe_str (pa_cons pe_str (pa_cons pe_str (pa_cons pe_str pa_nil)))))))))))))
      (pss_cons (ps_set (i := 1) sc_law_names.nd rfl (Or.inl rfl) (pe_lst (pa_cons pe_str (pa_cons pe_str (pa_cons pe_str (pa_cons pe_str (pa_cons pe_str (pa_cons pe_str (pa_cons pe_str (pa_cons pe_str (pa_cons pe_str (pa_cons pe_str (pa_cons pe_str (pa_cons pe_str pa_nil))))))))))))))
      (pss_one (ps_ret (pe_op op_cat (pe_op op_cat (pv 0) (pv 1)) (pe_lst (pa_cons pe_str (pa_cons pe_str (pa_cons pe_str pa_nil))))))))), ?_⟩
    refine ⟨sz (by show 11 ≤ 1000000; decide), fun u nu => ?_⟩
    generalize hH : upd _ u _ = H1
    have s1 := new_same hH nu
    have e1 := new_at hH
    refine ⟨sz (by show 12 ≤ 1000000; decide), fun v nv => ?_⟩
    generalize hH : upd _ v _ = H2
    have s2 := new_same hH nv
    have e2 := new_at hH
    refine ⟨_, rfl, _, rfl, u, v, _, _, rfl, rfl, s2 _ _ e1, e2, sz (by show 11 + 12 ≤ 1000000; decide), fun c nc => ?_⟩
    generalize hH : upd _ c _ = H3
    have s3 := new_same hH nc
    have e3 := new_at hH
    refine ⟨sz (by show 3 ≤ 1000000; decide), fun d nd => ?_⟩
    generalize hH : upd _ d _ = H4
    have s4 := new_same hH nd
    have e4 := new_at hH
    refine ⟨c, d, _, _, rfl, rfl, s4 _ _ e3, e4, sz (by show 23 + 3 ≤ 1000000; decide), fun f nf => ?_⟩
    generalize hH : upd _ f _ = H5
    have s5 := new_same hH nf
    have sA := s1.trans (s2.trans (s3.trans s4))
    exact q H5 f (sA.trans s5) (sA.free nf) (new_at hH)
end
end K21
/-! ## WU -/
set_option Elab.async false
set_option linter.all false
set_option maxRecDepth 100000
set_option maxHeartbeats 4000000
namespace K21
open PySem PySem.Spec PyProof.Rows L2 C8
local macro_rules | `(tactic| walk_at "adv") => `(tactic| repeat (first | refine ⟨_, rfl, ?_⟩ | refine ⟨rfl, ?_⟩ | refine ⟨_, _, rfl, rfl, ?_⟩ | refine iteT ?_ | refine iteF ?_))

def formIx (i : Nat) : Str := if i < 11 then "three" else if i < 15 then "near" else if i < 17 then "byte" else if i < 20 then "far" else if i < 21 then "call" else if i < 23 then "control" else "bare"
theorem form_at {i : Nat} {n : Str} (h : opNames[i]? = some n) : (n, formIx i) ∈ opsT := by
  have go : ∀ i : Fin 26, (opNames.getD i.val "", formIx i.val) ∈ opsT := by decide +kernel
  have hi := ix_small h
  have h1 := go ⟨i, hi⟩
  dsimp only at h1
  rw [List.getD_eq_getElem?_getD, h] at h1
  exact h1
theorem form_uni {i : Nat} {n f : Str} (h : opNames[i]? = some n) (hf : (n, f) ∈ opsT) : f = formIx i := by
  have go : ∀ q ∈ opsT, ∀ i : Fin 26, opNames[i.val]? = some q.1 → q.2 = formIx i.val := by decide +kernel
  exact go _ hf ⟨i, ix_small h⟩ h
theorem form3 {i : Nat} (h : i < 11) : formIx i = "three" := by unfold formIx; rw [if_pos h]
theorem form2 {i : Nat} (h : ¬ i < 11) (h2 : i < 15) : formIx i = "near" := by unfold formIx; rw [if_neg h, if_pos h2]
theorem formB {i : Nat} (h : ¬ i < 15) (h2 : i < 17) : formIx i = "byte" := by unfold formIx; rw [if_neg (by omega), if_neg h, if_pos h2]
theorem formF {i : Nat} (h : ¬ i < 17) (h2 : i < 20) : formIx i = "far" := by unfold formIx; rw [if_neg (by omega), if_neg (by omega), if_neg h, if_pos h2]
theorem formC {i : Nat} (h : i = 20) : formIx i = "call" := by rw [h]; rfl
theorem formK {i : Nat} (h : ¬ i < 21) (h2 : i < 23) : formIx i = "control" := by unfold formIx; rw [if_neg (by omega), if_neg (by omega), if_neg (by omega), if_neg (by omega), if_neg h, if_pos h2]
theorem form0 {i : Nat} (h : ¬ i < 23) : formIx i = "bare" := by unfold formIx; rw [if_neg (by omega), if_neg (by omega), if_neg (by omega), if_neg (by omega), if_neg (by omega), if_neg h]
theorem shape_of {f : Str} {a b : Nat} {c d : Int} (h : (f, (a, b, c, d)) ∈ shT) : (f = "three" → a = 3 ∧ b = 0 ∧ c = 0 ∧ d = 0) ∧ (f = "near" → a = 2 ∧ b = 5 ∧ c = -16 ∧ d = 15) ∧ (f = "byte" → a = 1 ∧ b = 8 ∧ c = 0 ∧ d = 255) ∧ (f = "far" → a = 1 ∧ b = 8 ∧ c = -128 ∧ d = 127) ∧ (f = "call" → a = 0 ∧ b = 8 ∧ c = 0 ∧ d = 255) ∧ (f = "control" → a = 1 ∧ b = 8 ∧ c = 0 ∧ d = 7) ∧ (f = "bare" → a = 0 ∧ b = 0 ∧ c = 0 ∧ d = 0) := by
  have go : ∀ q ∈ shT, (q.1 = "three" → q.2.1 = 3 ∧ q.2.2.1 = 0 ∧ q.2.2.2.1 = 0 ∧ q.2.2.2.2 = 0) ∧ (q.1 = "near" → q.2.1 = 2 ∧ q.2.2.1 = 5 ∧ q.2.2.2.1 = -16 ∧ q.2.2.2.2 = 15) ∧ (q.1 = "byte" → q.2.1 = 1 ∧ q.2.2.1 = 8 ∧ q.2.2.2.1 = 0 ∧ q.2.2.2.2 = 255) ∧ (q.1 = "far" → q.2.1 = 1 ∧ q.2.2.1 = 8 ∧ q.2.2.2.1 = -128 ∧ q.2.2.2.2 = 127) ∧ (q.1 = "call" → q.2.1 = 0 ∧ q.2.2.1 = 8 ∧ q.2.2.2.1 = 0 ∧ q.2.2.2.2 = 255) ∧ (q.1 = "control" → q.2.1 = 1 ∧ q.2.2.1 = 8 ∧ q.2.2.2.1 = 0 ∧ q.2.2.2.2 = 7) ∧ (q.1 = "bare" → q.2.1 = 0 ∧ q.2.2.1 = 0 ∧ q.2.2.2.1 = 0 ∧ q.2.2.2.2 = 0) := by decide +kernel
  exact go _ h
theorem len1 {α : Type} {l : List α} (h : l.length = 1) : ∃ x, l = [x] := by
  match l, h with
  | [x], _ => exact ⟨x, rfl⟩
theorem len2 {α : Type} {l : List α} (h : l.length = 2) : ∃ x y, l = [x, y] := by
  match l, h with
  | [x, y], _ => exact ⟨x, y, rfl⟩
theorem len3 {α : Type} {l : List α} (h : l.length = 3) : ∃ x y z, l = [x, y, z] := by
  match l, h with
  | [x, y, z], _ => exact ⟨x, y, z, rfl⟩
/-- the shape of an instruction, by its number -/
theorem ins_shape {n : Str} {regs : List Nat} {imm : List Int} {w : Int} (h : InsW n regs imm w) : ∃ i : Nat, i < 26 ∧ opNames[i]? = some n ∧ (∀ r ∈ regs, r < 8) ∧
    ((i < 11 ∧ ∃ x y z : Nat, z < 8 ∧ regs = [x, y, z] ∧ imm = [] ∧ w = ((i : Int) + 1) * 2048 + (x : Int) * 256 + (y : Int) * 32 + (z : Int)) ∨
    (11 ≤ i ∧ i < 15 ∧ ∃ x y k, regs = [x, y] ∧ imm = [k] ∧ -128 ≤ k ∧ k ≤ 255 ∧ w = ((i : Int) + 1) * 2048 + (x : Int) * 256 + (y : Int) * 32 + k % 32) ∨
    (15 ≤ i ∧ i < 23 ∧ i ≠ 20 ∧ ∃ x k, regs = [x] ∧ imm = [k] ∧ -128 ≤ k ∧ k ≤ 255 ∧ w = ((i : Int) + 1) * 2048 + (x : Int) * 256 + k % 256) ∨
    (i = 20 ∧ ∃ k, regs = [] ∧ imm = [k] ∧ 0 ≤ k ∧ k ≤ 255 ∧ w = 21 * 2048 + k) ∨
    (23 ≤ i ∧ regs = [] ∧ imm = [] ∧ w = ((i : Int) + 1) * 2048)) := by
  obtain ⟨f, a, b, c, d, i, ⟨hf, hs, hr1, hr8, him⟩, hi, hw⟩ := h
  have ef := form_uni hi hf
  subst ef
  have hi26 := ix_small hi
  refine ⟨i, hi26, hi, hr8, ?_⟩
  have hfx : formIx i = "three" ∧ i < 11 ∨ formIx i = "near" ∧ 11 ≤ i ∧ i < 15 ∨ formIx i = "byte" ∧ 15 ≤ i ∧ i < 17 ∨ formIx i = "far" ∧ 17 ≤ i ∧ i < 20 ∨ formIx i = "call" ∧ i = 20 ∨ formIx i = "control" ∧ 21 ≤ i ∧ i < 23 ∨ formIx i = "bare" ∧ 23 ≤ i := by
    by_cases c1 : i < 11
    · exact .inl ⟨form3 c1, c1⟩
    by_cases c2 : i < 15
    · exact .inr (.inl ⟨form2 c1 c2, by omega, c2⟩)
    by_cases c3 : i < 17
    · exact .inr (.inr (.inl ⟨formB c2 c3, by omega, c3⟩))
    by_cases c4 : i < 20
    · exact .inr (.inr (.inr (.inl ⟨formF c3 c4, by omega, c4⟩)))
    by_cases c5 : i = 20
    · exact .inr (.inr (.inr (.inr (.inl ⟨formC c5, c5⟩))))
    by_cases c6 : i < 23
    · exact .inr (.inr (.inr (.inr (.inr (.inl ⟨formK (by omega) c6, by omega, c6⟩)))))
    · exact .inr (.inr (.inr (.inr (.inr (.inr ⟨form0 c6, by omega⟩)))))
  have hb := shape_of hs
  rcases hfx with ⟨e, c1⟩ | ⟨e, c1, c2⟩ | ⟨e, c1, c2⟩ | ⟨e, c1, c2⟩ | ⟨e, c1⟩ | ⟨e, c1, c2⟩ | ⟨e, c1⟩
  · obtain ⟨ea, eb, ec, ed⟩ := hb.1 e
    subst ea eb ec ed
    obtain ⟨x, y, z, rfl⟩ := len3 hr1
    rcases him with ⟨_, rfl⟩ | ⟨z0, _⟩
    · refine .inl ⟨c1, x, y, z, hr8 z (by simp), rfl, rfl, ?_⟩
      rw [hw]
      simp only [regSum, immW]
      omega
    · omega
  · obtain ⟨ea, eb, ec, ed⟩ := hb.2.1 e
    subst ea eb ec ed
    obtain ⟨x, y, rfl⟩ := len2 hr1
    rcases him with ⟨z0, _⟩ | ⟨_, k, rfl, h1, h2⟩
    · omega
    · refine .inr (.inl ⟨c1, c2, x, y, k, rfl, rfl, by omega, by omega, ?_⟩)
      rw [hw]
      simp only [regSum, immW]
      omega
  · obtain ⟨ea, eb, ec, ed⟩ := hb.2.2.1 e
    subst ea eb ec ed
    obtain ⟨x, rfl⟩ := len1 hr1
    rcases him with ⟨z0, _⟩ | ⟨_, k, rfl, h1, h2⟩
    · omega
    · refine .inr (.inr (.inl ⟨c1, by omega, by omega, x, k, rfl, rfl, by omega, by omega, ?_⟩))
      rw [hw]
      simp only [regSum, immW]
      omega
  · obtain ⟨ea, eb, ec, ed⟩ := hb.2.2.2.1 e
    subst ea eb ec ed
    obtain ⟨x, rfl⟩ := len1 hr1
    rcases him with ⟨z0, _⟩ | ⟨_, k, rfl, h1, h2⟩
    · omega
    · refine .inr (.inr (.inl ⟨by omega, by omega, by omega, x, k, rfl, rfl, by omega, by omega, ?_⟩))
      rw [hw]
      simp only [regSum, immW]
      omega
  · obtain ⟨ea, eb, ec, ed⟩ := hb.2.2.2.2.1 e
    subst ea eb ec ed
    have er := List.eq_nil_of_length_eq_zero hr1
    subst er
    rcases him with ⟨z0, _⟩ | ⟨_, k, rfl, h1, h2⟩
    · omega
    · refine .inr (.inr (.inr (.inl ⟨c1, k, rfl, rfl, by omega, by omega, ?_⟩)))
      rw [hw, c1]
      simp only [regSum, immW]
      omega
  · obtain ⟨ea, eb, ec, ed⟩ := hb.2.2.2.2.2.1 e
    subst ea eb ec ed
    obtain ⟨x, rfl⟩ := len1 hr1
    rcases him with ⟨z0, _⟩ | ⟨_, k, rfl, h1, h2⟩
    · omega
    · refine .inr (.inr (.inl ⟨by omega, by omega, by omega, x, k, rfl, rfl, by omega, by omega, ?_⟩))
      rw [hw]
      simp only [regSum, immW]
      omega
  · obtain ⟨ea, eb, ec, ed⟩ := hb.2.2.2.2.2.2 e
    subst ea eb ec ed
    have er := List.eq_nil_of_length_eq_zero hr1
    subst er
    rcases him with ⟨_, rfl⟩ | ⟨z0, _⟩
    · refine .inr (.inr (.inr (.inr ⟨c1, rfl, rfl, ?_⟩)))
      rw [hw]
      simp only [regSum, immW]
      omega
    · omega
theorem shM3 : (("three" : Str), (3, 0, (0 : Int), (0 : Int))) ∈ shT := by decide +kernel
theorem shM2 : (("near" : Str), (2, 5, (-16 : Int), (15 : Int))) ∈ shT := by decide +kernel
theorem shMB : (("byte" : Str), (1, 8, (0 : Int), (255 : Int))) ∈ shT := by decide +kernel
theorem shMF : (("far" : Str), (1, 8, (-128 : Int), (127 : Int))) ∈ shT := by decide +kernel
theorem shMC : (("call" : Str), (0, 8, (0 : Int), (255 : Int))) ∈ shT := by decide +kernel
theorem shMK : (("control" : Str), (1, 8, (0 : Int), (7 : Int))) ∈ shT := by decide +kernel
theorem shM0 : (("bare" : Str), (0, 0, (0 : Int), (0 : Int))) ∈ shT := by decide +kernel

section
variable {P : Program} {w : World} {K : PySem.W.Frag} {mg : Str → Option Value} {base : Heap}
abbrev N_law_instruction : List Str := ["_law_pot_here", "_law_number_here", "_law_name", "_law_a", "_law_b"]
theorem sc_law_instruction : FnScope N_law_instruction ["_law_pot_here"] (defScope s_law_instruction) := ⟨rfl, rfl, rfl, by decide +kernel, rfl, by decide +kernel, by decide +kernel⟩
def sp_law_instruction : Sp := fun vs H Q _ => ∃ (p : Addr), vs = [.ref p] ∧ PotOk H p ∧ ∀ H' t n regs imm, Keep [p] H H' → PotOk H' p → H t = none → InsAt H' t n regs imm → InsOk n regs imm → Q (.ref t) H'
theorem cal_law_instruction (T : Tx w K mg) : C8.Cal P w K mg base 2 "_law_instruction" sp_law_instruction [] := by
  have c_law_draw := cal_law_draw (P := P) (base := base) T
  have c_law_names := cal_law_names (P := P) (base := base) T
  refine cal_of (st := s_law_instruction) (ps := ["_law_pot_here"]) T.d_law_instruction T.m_law_instruction sc_law_instruction (fun _ _ _ _ _ _ us hl => match us, hl with | [_], _ => rfl) (fun vs H Q E h => ?_) (fun cdv A outer s H vs Q E hr h => ?_)
  · obtain ⟨p, rfl, _⟩ := h
    rfl
  · obtain ⟨p, rfl, hp, q⟩ := h
    refine ⟨_, (pss_cons (ps_set (i := 1) sc_law_instruction.nd rfl (Or.inl rfl) (pe_op op_add pe_int (pe_c c_law_draw hr (by decide) (by rfl) (pa_cons (pv 0) (pa_cons pe_int pa_nil)))))
      (pss_cons (ps_par (i := 2) (j := 3) (by rfl) sc_law_instruction.nd rfl rfl (by decide) rfl rfl (pa_cons (pe_ix ix_list (pe_c0 c_law_names hr (by decide) (by rfl)) (pe_op op_sub (pv 1) pe_int) (fun _ _ => rfl)) (pa_cons (pe_c c_law_draw hr (by decide) (by rfl) (pa_cons (pv 0) (pa_cons pe_int pa_nil))) pa_nil)) (by rfl))
      (pss_cons (ps_if (pt_cmpR op_lt (pv 1) pe_int (nomark _))
        (pss_cons (ps_set (i := 4) sc_law_instruction.nd rfl (Or.inl rfl) (pe_c c_law_draw hr (by decide) (by rfl) (pa_cons (pv 0) (pa_cons pe_int pa_nil))))
        (pss_one (ps_ret (pe_tup (pa_cons (pv 2) (pa_cons (pv 3) (pa_cons (pv 4) (pa_cons (pe_c c_law_draw hr (by decide) (by rfl) (pa_cons (pv 0) (pa_cons pe_int pa_nil))) pa_nil))))))))
        pss_nil)
      (pss_cons (ps_if (pt_cmpR op_lt (pv 1) pe_int (nomark _))
        (pss_cons (ps_set (i := 4) sc_law_instruction.nd rfl (Or.inl rfl) (pe_c c_law_draw hr (by decide) (by rfl) (pa_cons (pv 0) (pa_cons pe_int pa_nil))))
        (pss_one (ps_ret (pe_tup (pa_cons (pv 2) (pa_cons (pv 3) (pa_cons (pv 4) (pa_cons (pe_op op_sub (pe_c c_law_draw hr (by decide) (by rfl) (pa_cons (pv 0) (pa_cons pe_int pa_nil))) pe_int) pa_nil))))))))
        pss_nil)
      (pss_cons (ps_if (pt_cmpR op_lt (pv 1) pe_int (nomark _))
        (pss_one (ps_ret (pe_tup (pa_cons (pv 2) (pa_cons (pv 3) (pa_cons (pe_c c_law_draw hr (by decide) (by rfl) (pa_cons (pv 0) (pa_cons pe_int pa_nil))) pa_nil))))))
        pss_nil)
      (pss_cons (ps_if (pt_cmpR op_lt (pv 1) pe_int (nomark _))
        (pss_one (ps_ret (pe_tup (pa_cons (pv 2) (pa_cons (pv 3) (pa_cons (pe_op op_sub (pe_c c_law_draw hr (by decide) (by rfl) (pa_cons (pv 0) (pa_cons pe_int pa_nil))) pe_int) pa_nil))))))
        pss_nil)
      (pss_cons (ps_if (pt_cmpR op_eq (pv 1) pe_int (nomark _))
        (pss_one (ps_ret (pe_tup (pa_cons (pv 2) (pa_cons (pe_c c_law_draw hr (by decide) (by rfl) (pa_cons (pv 0) (pa_cons pe_int pa_nil))) pa_nil)))))
        pss_nil)
      (pss_one (ps_ret (pe_ifExp (pt_cmpR op_lt (pv 1) pe_int (nomark _)) (pe_tup (pa_cons (pv 2) (pa_cons (pv 3) (pa_cons (pe_c c_law_draw hr (by decide) (by rfl) (pa_cons (pv 0) (pa_cons pe_int pa_nil))) pa_nil)))) (pe_tup (pa_cons (pv 2) pa_nil)))))))))))), ?_⟩
    refine ⟨_, rfl, p, 26, rfl, hp, by decide, by decide, fun i H1 hi k1 hp1 => ?_⟩
    refine ⟨_, _, rfl, rfl, ?_⟩
    refine ⟨rfl, fun H2 L s2 nL eL => ?_⟩
    have hi26 : i < opNames.length := hi
    have hat : opNames[i]? = some opNames[i] := List.getElem?_eq_getElem hi26
    generalize opNames[i] = n at hat
    refine ⟨_, rfl, _, _, rfl, rfl, L, _, ((i : Nat) : Int), .str n, rfl, ?_, .inl (.inl eL), atI_nat (by rw [List.getElem?_map, hat]; rfl), ?_⟩
    · show V.int (1 + (i : Int) - 1) = V.int i
      congr 1
      omega
    have hform := form_at hat
    have hp2 := hp1.same s2
    have k2 : Keep [p] H H2 := k1.trans (Keep.of_same s2)
    have fin : ∀ (H7 : Hp) (regs : List Nat) (imm : List Int), Keep [p] H H7 → PotOk H7 p → InsOk n regs imm → ∀ t, H7 t = none → Q (.ref t) (upd H7 t (.tup (.str n :: (regs.map (fun r : Nat => V.int (r : Int)) ++ imm.map V.int)))) := fun H7 regs imm k7 hp7 hok t nt => by
      generalize hH : upd H7 t _ = H8
      have s8 := new_same hH nt
      have tp : t ∉ [p] := fun m => by
        have e : t = p := by simpa using m
        obtain ⟨_, _, e2, _⟩ := hp7
        rw [e, e2] at nt
        cases nt
      exact q H8 t n regs imm (k7.trans (Keep.of_same s8)) (hp7.same s8) (fresh_keep k7 tp nt) (new_at hH) hok
    refine ⟨_, rfl, p, 8, rfl, hp2, by decide, by decide, fun a H3 ha k3 hp3 => ?_⟩
    have kA := k2.trans k3
    refine ⟨_, _, rfl, ?_⟩
    refine ⟨_, rfl, _, _, rfl, rfl, _, rfl, ?_⟩
    by_cases c1 : i < 11
    · rw [form3 c1] at hform
      refine iteDT (by omega) ⟨_, rfl, p, 8, rfl, hp3, by decide, by decide, fun b H4 hb k4 hp4 => ?_⟩
      refine ⟨_, rfl, _, rfl, _, rfl, _, rfl, p, 8, rfl, hp4, by decide, by decide, fun c H5 hc k5 hp5 => ?_⟩
      refine ⟨sz (by show 4 ≤ 1000000; decide), ?_⟩
      refine fin H5 [a, b, c] [] (kA.trans (k4.trans k5)) hp5 ⟨_, _, _, _, _, hform, shM3, rfl, fun r hr => ?_, .inl ⟨rfl, rfl⟩⟩
      have : r = a ∨ r = b ∨ r = c := by simpa using hr
      omega
    refine iteDF (by omega) ?_
    refine ⟨_, rfl, _, _, rfl, rfl, _, rfl, ?_⟩
    by_cases c2 : i < 15
    · rw [form2 c1 c2] at hform
      refine iteDT (by omega) ⟨_, rfl, p, 8, rfl, hp3, by decide, by decide, fun b H4 hb k4 hp4 => ?_⟩
      refine ⟨_, rfl, _, rfl, _, rfl, _, rfl, p, 32, rfl, hp4, by decide, by decide, fun c H5 hc k5 hp5 => ?_⟩
      refine ⟨_, _, rfl, rfl, sz (by show 4 ≤ 1000000; decide), ?_⟩
      refine fin H5 [a, b] [(c : Int) - 16] (kA.trans (k4.trans k5)) hp5 ⟨_, _, _, _, _, hform, shM2, rfl, fun r hr => ?_, .inr ⟨by decide, _, rfl, by omega, by omega⟩⟩
      have : r = a ∨ r = b := by simpa using hr
      omega
    refine iteDF (by omega) ?_
    refine ⟨_, rfl, _, _, rfl, rfl, _, rfl, ?_⟩
    have one : ∀ r ∈ [a], r < 8 := fun r hr => by
      have : r = a := by simpa using hr
      omega
    by_cases c3 : i < 17
    · rw [formB c2 c3] at hform
      refine iteDT (by omega) ⟨_, rfl, _, rfl, _, rfl, p, 256, rfl, hp3, by decide, by decide, fun c H5 hc k5 hp5 => ?_⟩
      refine ⟨sz (by show 3 ≤ 1000000; decide), ?_⟩
      exact fin H5 [a] [(c : Int)] (kA.trans k5) hp5 ⟨_, _, _, _, _, hform, shMB, rfl, one, .inr ⟨by decide, _, rfl, by omega, by omega⟩⟩
    refine iteDF (by omega) ?_
    refine ⟨_, rfl, _, _, rfl, rfl, _, rfl, ?_⟩
    by_cases c4 : i < 20
    · rw [formF c3 c4] at hform
      refine iteDT (by omega) ⟨_, rfl, _, rfl, _, rfl, p, 256, rfl, hp3, by decide, by decide, fun c H5 hc k5 hp5 => ?_⟩
      refine ⟨_, _, rfl, rfl, sz (by show 3 ≤ 1000000; decide), ?_⟩
      exact fin H5 [a] [(c : Int) - 128] (kA.trans k5) hp5 ⟨_, _, _, _, _, hform, shMF, rfl, one, .inr ⟨by decide, _, rfl, by omega, by omega⟩⟩
    refine iteDF (by omega) ?_
    refine ⟨_, rfl, rfl, _, rfl, ?_⟩
    by_cases c5 : i = 20
    · rw [formC c5] at hform
      refine iteDT (by show V.int (1 + (i : Int)) = V.int 21; rw [c5]; rfl) ⟨_, rfl, _, rfl, p, 256, rfl, hp3, by decide, by decide, fun c H5 hc k5 hp5 => ?_⟩
      refine ⟨sz (by show 2 ≤ 1000000; decide), ?_⟩
      exact fin H5 [] [(c : Int)] (kA.trans k5) hp5 ⟨_, _, _, _, _, hform, shMC, rfl, fun r hr => (by cases hr), .inr ⟨by decide, _, rfl, by omega, by omega⟩⟩
    refine iteDF (fun z => c5 (by have := V.int.inj z; omega)) ?_
    refine ⟨_, rfl, _, _, rfl, rfl, _, rfl, ?_⟩
    by_cases c6 : i < 23
    · rw [formK (by omega) c6] at hform
      refine iteDT (by omega) ⟨_, rfl, _, rfl, _, rfl, p, 8, rfl, hp3, by decide, by decide, fun c H5 hc k5 hp5 => ?_⟩
      refine ⟨sz (by show 3 ≤ 1000000; decide), ?_⟩
      exact fin H5 [a] [(c : Int)] (kA.trans k5) hp5 ⟨_, _, _, _, _, hform, shMK, rfl, one, .inr ⟨by decide, _, rfl, by omega, by omega⟩⟩
    · rw [form0 c6] at hform
      refine iteDF (by omega) ⟨_, rfl, sz (by show 1 ≤ 1000000; decide), ?_⟩
      exact fin H3 [] [] kA hp3 ⟨_, _, _, _, _, hform, shM0, rfl, fun r hr => (by cases hr), .inl ⟨rfl, rfl⟩⟩
abbrev N_law_word : List Str := ["_law_instruction_here", "_law_number_here", "_law_found"]
theorem sc_law_word : FnScope N_law_word ["_law_instruction_here"] (defScope s_law_word) := ⟨rfl, rfl, rfl, by decide +kernel, rfl, by decide +kernel, by decide +kernel⟩
def sp_law_word : Sp := fun vs H Q _ => ∃ (t : Addr) (n : Str) (regs : List Nat) (imm : List Int) (wd : Int), vs = [.ref t] ∧ InsAt H t n regs imm ∧ InsW n regs imm wd ∧ ∀ H', Same H H' → Q (.int wd) H'
theorem cal_law_word (T : Tx w K mg) : C8.Cal P w K mg base 2 "_law_word" sp_law_word [] := by
  have c_law_names := cal_law_names (P := P) (base := base) T
  refine cal_of (st := s_law_word) (ps := ["_law_instruction_here"]) T.d_law_word T.m_law_word sc_law_word (fun _ _ _ _ _ _ us hl => match us, hl with | [_], _ => rfl) (fun vs H Q E h => ?_) (fun cdv A outer s H vs Q E hr h => ?_)
  · obtain ⟨t, n, regs, imm, wd, rfl, _⟩ := h
    rfl
  · obtain ⟨t, n, regs, imm, wd, rfl, ht, hw, q⟩ := h
    refine ⟨_, (pss_cons (ps_set (i := 1) sc_law_word.nd rfl (Or.inl rfl) (pe_op op_add (pe_bm PySem.F.plainAttrs_list PySem.F.slot_list_index PySem.F.type_list_index mt_index (pe_c0 c_law_names hr (by decide) (by rfl)) (pa_cons (pe_ix ix_tup (pv 0) pe_int (fun _ _ => rfl)) pa_nil)) pe_int))
      (pss_cons (ps_set (i := 2) sc_law_word.nd rfl (Or.inl rfl) (pe_op op_mul (pv 1) pe_int))
      (pss_cons (ps_if (pt_cmpR op_eq (pv 1) pe_int (nomark _))
        (pss_one (ps_ret (pe_op op_add (pv 2) (pe_ix ix_tup (pv 0) pe_int (fun _ _ => rfl)))))
        pss_nil)
      (pss_cons (ps_if (pt_cmpR op_gt (pv 1) pe_int (nomark _))
        (pss_one (ps_ret (pv 2)))
        pss_nil)
      (pss_cons (ps_set (i := 2) sc_law_word.nd rfl (Or.inl rfl) (pe_op op_add (pv 2) (pe_op op_mul (pe_ix ix_tup (pv 0) pe_int (fun _ _ => rfl)) pe_int)))
      (pss_cons (ps_if (pt_cmpR op_lt (pv 1) pe_int (nomark _))
        (pss_one (ps_ret (pe_op op_add (pe_op op_add (pv 2) (pe_op op_mul (pe_ix ix_tup (pv 0) pe_int (fun _ _ => rfl)) pe_int)) (pe_op op_mod (pe_ix ix_tup (pv 0) pe_int (fun _ _ => rfl)) pe_int))))
        pss_nil)
      (pss_one (ps_ret (pe_op op_add (pv 2) (pe_op op_mod (pe_ix ix_tup (pv 0) pe_int (fun _ _ => rfl)) pe_int)))))))))), ?_⟩
    obtain ⟨i, hi26, hat, hr8, hcase⟩ := ins_shape hw
    refine ⟨rfl, fun H1 L s1 nL eL => ?_⟩
    have ht1 := s1 _ _ ht
    have fin : ∀ k : Int, k = wd → Q (.int k) H1 := fun k e => by
      rw [e]
      exact q _ s1
    refine ⟨.inl ⟨rfl, _, .inl (.inl eL)⟩, _, rfl, t, _, 0, .str n, rfl, rfl, .inl (.inl ht1), atI_nat (j := 0) rfl, L, _, _, i, .str n, rfl, rfl, .inl (.inl eL), rfl, flat_strs _, by rw [List.getElem?_map, hat]; rfl, by rw [eqV_str]; exact decide_eq_true rfl, fun m z hm hz => ?_, ?_⟩
    · rw [List.getElem?_map] at hz
      obtain ⟨z1, h1, rfl⟩ := Option.map_eq_some_iff.mp hz
      rw [eqV_str]
      exact decide_eq_false (ix_first hat hm h1)
    refine ⟨_, _, rfl, rfl, _, rfl, _, _, rfl, rfl, .inr ⟨by decide, by decide⟩, ?_⟩
    refine ⟨_, rfl, rfl, _, rfl, ?_⟩
    rcases hcase with ⟨c1, x, y, z, hz, rfl, rfl, hwd⟩ | ⟨c1, c2, x, y, k, rfl, rfl, h1, h2, hwd⟩ | ⟨c1, c2, c3, x, k, rfl, rfl, h1, h2, hwd⟩ | ⟨c1, k, rfl, rfl, h1, h2, hwd⟩ | ⟨c1, rfl, rfl, hwd⟩
    · refine iteDF (fun e => by have := V.int.inj e; omega) ?_
      refine ⟨_, rfl, _, _, rfl, rfl, _, rfl, iteDF (by omega) ?_⟩
      refine ⟨_, rfl, _, rfl, t, _, 1, _, rfl, rfl, .inl (.inl ht1), atI_nat (j := 1) rfl, _, _, rfl, rfl, .inr ⟨by decide, by decide⟩, _, _, rfl, rfl, ?_⟩
      refine ⟨_, rfl, _, _, rfl, rfl, _, rfl, iteDT (by omega) ?_⟩
      refine ⟨_, rfl, _, rfl, t, _, 2, _, rfl, rfl, .inl (.inl ht1), atI_nat (j := 2) rfl, _, _, rfl, rfl, .inr ⟨by decide, by decide⟩, _, _, rfl, rfl, _, rfl, t, _, 3, _, rfl, rfl, .inl (.inl ht1), atI_nat (j := 3) rfl, _, _, rfl, rfl, by show (0 : Int) < 32; decide, _, _, rfl, rfl, fin _ (by rw [hwd]; omega)⟩
    · refine iteDF (fun e => by have := V.int.inj e; omega) ?_
      refine ⟨_, rfl, _, _, rfl, rfl, _, rfl, iteDF (by omega) ?_⟩
      refine ⟨_, rfl, _, rfl, t, _, 1, _, rfl, rfl, .inl (.inl ht1), atI_nat (j := 1) rfl, _, _, rfl, rfl, .inr ⟨by decide, by decide⟩, _, _, rfl, rfl, ?_⟩
      refine ⟨_, rfl, _, _, rfl, rfl, _, rfl, iteDT (by omega) ?_⟩
      refine ⟨_, rfl, _, rfl, t, _, 2, _, rfl, rfl, .inl (.inl ht1), atI_nat (j := 2) rfl, _, _, rfl, rfl, .inr ⟨by decide, by decide⟩, _, _, rfl, rfl, _, rfl, t, _, 3, _, rfl, rfl, .inl (.inl ht1), atI_nat (j := 3) rfl, _, _, rfl, rfl, by show (0 : Int) < 32; decide, _, _, rfl, rfl, fin _ (by rw [hwd])⟩
    · refine iteDF (fun e => by have := V.int.inj e; omega) ?_
      refine ⟨_, rfl, _, _, rfl, rfl, _, rfl, iteDF (by omega) ?_⟩
      refine ⟨_, rfl, _, rfl, t, _, 1, _, rfl, rfl, .inl (.inl ht1), atI_nat (j := 1) rfl, _, _, rfl, rfl, .inr ⟨by decide, by decide⟩, _, _, rfl, rfl, ?_⟩
      refine ⟨_, rfl, _, _, rfl, rfl, _, rfl, iteDF (by omega) ?_⟩
      refine ⟨_, rfl, _, rfl, t, _, 2, _, rfl, rfl, .inl (.inl ht1), atI_nat (j := 2) rfl, _, _, rfl, rfl, by show (0 : Int) < 256; decide, _, _, rfl, rfl, fin _ (by rw [hwd])⟩
    · refine iteDT (by rw [c1]; rfl) ?_
      refine ⟨_, rfl, _, rfl, t, _, 1, _, rfl, rfl, .inl (.inl ht1), atI_nat (j := 1) rfl, _, _, rfl, rfl, fin _ (by rw [hwd, c1]; rfl)⟩
    · refine iteDF (fun e => by have := V.int.inj e; omega) ?_
      refine ⟨_, rfl, _, _, rfl, rfl, _, rfl, iteDT (by omega) ?_⟩
      exact ⟨_, rfl, fin _ (by rw [hwd])⟩
end
end K21
/-! ## WV -/
set_option Elab.async false
set_option linter.all false
set_option maxRecDepth 100000
set_option maxHeartbeats 4000000
namespace K21
open PySem PySem.Spec PyProof.Rows L2 C8
local macro_rules | `(tactic| walk_at "adv") => `(tactic| repeat (first | refine ⟨_, rfl, ?_⟩ | refine ⟨rfl, ?_⟩ | refine ⟨_, _, rfl, rfl, ?_⟩ | refine iteT ?_ | refine iteF ?_))

/-- an int as text -/
def numT (k : Int) : List Nat := cl (Str.ofString (toString k))
theorem log2_small {n : Nat} (h : n < 2 ^ 1920) : n.log2 < 1920 := by
  by_cases h0 : n = 0
  · rw [h0]; decide
  · exact (Nat.log2_lt h0).mpr h
theorem reg_text {r : Nat} (h : r < 8) : ("r" : Str) ++ Str.ofString (toString (r : Int)) = S (regW r) := by
  have go : ∀ r : Fin 8, ("r" : Str) ++ Str.ofString (toString ((r.val : Nat) : Int)) = S (regW r.val) := by decide +kernel
  exact go ⟨r, h⟩
theorem imm_text (k : Int) : ("" : Str) ++ Str.ofString (toString k) = S (numT k) := by
  rw [str_e]
  unfold numT
  rw [← S_cl (Str.ofString (toString k)), S_cat]
  rfl
def vis (c : Nat) : Bool := decide (32 < c) && (decide (c < 127) && (decide (c ≠ 34) && decide (c ≠ 59)))
/-- what is asked of a word of a line that has no quotes -/
def goodW (w : List Nat) : Bool := decide (w ≠ []) && (decide (w.length ≤ 20) && w.all vis)
def numOk (k : Int) : Bool := goodW (numT k) && (decide (valM (numT k) = some (none, k)) && decide ((numT k).getLast? ≠ some 58))
theorem numT_all : ∀ j : Fin 384, numOk ((j.val : Int) - 128) = true := by decide +kernel
theorem numT_ok {k : Int} (h1 : -128 ≤ k) (h2 : k ≤ 255) : goodW (numT k) = true ∧ valM (numT k) = some (none, k) ∧ (numT k).getLast? ≠ some 58 := by
  have h := numT_all ⟨(k + 128).toNat, by omega⟩
  dsimp only at h
  rw [show (((k + 128).toNat : Nat) : Int) - 128 = k by omega] at h
  unfold numOk at h
  obtain ⟨g1, h⟩ := Bool.and_eq_true_iff.mp h
  obtain ⟨g2, g3⟩ := Bool.and_eq_true_iff.mp h
  exact ⟨g1, of_decide_eq_true g2, of_decide_eq_true g3⟩
theorem goodW_len {w : List Nat} (h : goodW w = true) : w.length ≤ 20 := by
  unfold goodW at h
  exact of_decide_eq_true (Bool.and_eq_true_iff.mp (Bool.and_eq_true_iff.mp h).2).1
theorem sIx_tail (x : V) (A : List V) : ¬ (HT.sIx (x :: A).length 0 (some 1) = 0 ∧ HT.sIx (x :: A).length (x :: A).length none = (x :: A).length) := fun h => by
  have h1 := h.1
  rw [show (some (1 : Int)) = some ((1 : Nat) : Int) from rfl, HT.sIx_nat] at h1
  simp at h1
def saidW (regs : List Nat) (imm : List Int) : List (List Nat) := regs.map regW ++ imm.map numT
def SaidI (t F : Addr) (num many : Int) (H1 : Hp) (n : Str) (ws : List (List Nat)) (m : Nat) (σ : L2.St) (H : Hp) : Prop := ∃ y4 y5 : Option V, σ = [some (.ref t), some (.int num), some (.int many), some (.ref F), y4, y5] ∧ Keep [F] H1 H ∧ H F = some (.lst ((cl n :: ws.take m).map strV))

section
variable {P : Program} {w : World} {K : PySem.W.Frag} {mg : Str → Option Value} {base : Heap}
abbrev N_law_said : List Str := ["_law_instruction_here", "_law_number_here", "_law_many", "_law_found", "_law_at", "_law_part"]
theorem sc_law_said : FnScope N_law_said ["_law_instruction_here"] (defScope s_law_said) := ⟨rfl, rfl, rfl, by decide +kernel, rfl, by decide +kernel, by decide +kernel⟩
def sp_law_said (K : PySem.W.Frag) : Sp := fun vs H Q _ => ∃ (t : Addr) (n : Str) (regs : List Nat) (imm : List Int) (wd : Int), vs = [.ref t] ∧ InsAt H t n regs imm ∧ InsW n regs imm wd ∧ ∀ H' L, Same H H' → H L = none → H' L = some (.lst ((cl n :: saidW regs imm).map strV)) → Q (.ref L) H'
theorem cal_law_said (T : Tx w K mg) : C8.Cal P w K mg base 2 "_law_said" (sp_law_said K) [] := by
  have c_law_names := cal_law_names (P := P) (base := base) T
  refine cal_of (st := s_law_said) (ps := ["_law_instruction_here"]) T.d_law_said T.m_law_said sc_law_said (fun _ _ _ _ _ _ us hl => match us, hl with | [_], _ => rfl) (fun vs H Q E h => ?_) (fun cdv A outer s H vs Q E hr h => ?_)
  · obtain ⟨t, n, regs, imm, wd, rfl, _⟩ := h
    rfl
  · obtain ⟨t, n, regs, imm, wd, rfl, ht, hw, q⟩ := h
    refine ⟨_, (pss_cons (ps_set (i := 1) sc_law_said.nd rfl (Or.inl rfl) (pe_op op_add (pe_bm PySem.F.plainAttrs_list PySem.F.slot_list_index PySem.F.type_list_index mt_index (pe_c0 c_law_names hr (by decide) (by rfl)) (pa_cons (pe_ix ix_tup (pv 0) pe_int (fun _ _ => rfl)) pa_nil)) pe_int))
      (pss_cons (ps_set (i := 2) sc_law_said.nd rfl (Or.inl rfl) (pe_ifExp (pt_cmpR op_lt (pv 1) pe_int (nomark _)) pe_int (pe_ifExp (pt_cmpR op_lt (pv 1) pe_int (nomark _)) pe_int (pe_ifExp (pt_cmpR op_notIn_seq (pv 1) (pe_tup (pa_cons pe_int (pa_cons pe_int (pa_cons pe_int (pa_cons pe_int pa_nil))))) (by rfl)) pe_int pe_int))))
      (pss_cons (ps_set (i := 3) sc_law_said.nd rfl (Or.inl rfl) (pe_lst (pa_cons (pe_ix ix_tup (pv 0) pe_int (fun _ _ => rfl)) pa_nil)))
      (pss_cons (ps_for PassesOwn.never rfl (pi_enumT (by rfl) T.f_enumerate (pa_cons (pe_slice sl_tupA (pv 0) (po_some pe_int) po_none) pa_nil)) (pg_tup rfl (pgs_cons (pg_name (i := 4) sc_law_said.nd rfl (Or.inl rfl)) (pgs_cons (pg_name (i := 5) sc_law_said.nd rfl (Or.inl rfl)) pgs_nil)))
        (pss_one (ps_expr (pe_bm PySem.F.plainAttrs_list PySem.F.slot_list_append PySem.F.type_list_append mt_append (pv 3) (pa_cons (pe_op op_add_str (pe_ifExp (pt_cmpR op_lt (pv 4) (pv 2) (nomark _)) pe_str pe_str) (pe_callTy call_str_int (by rfl) T.f_str (by decide +kernel) (pa_cons (pv 5) pa_nil))) pa_nil)))))
      (pss_one (ps_ret (pv 3))))))), ?_⟩
    obtain ⟨i, hi26, hat, hr8, hcase⟩ := ins_shape hw
    refine ⟨rfl, fun H1 L s1 nL eL => ?_⟩
    have ht1 := s1 _ _ ht
    refine ⟨.inl ⟨rfl, _, .inl (.inl eL)⟩, _, rfl, t, _, 0, .str n, rfl, rfl, .inl (.inl ht1), atI_nat (j := 0) rfl, L, _, _, i, .str n, rfl, rfl, .inl (.inl eL), rfl, flat_strs _, by rw [List.getElem?_map, hat]; rfl, by rw [eqV_str]; exact decide_eq_true rfl, fun m z hm hz => ?_, ?_⟩
    · rw [List.getElem?_map] at hz
      obtain ⟨z1, h1, rfl⟩ := Option.map_eq_some_iff.mp hz
      rw [eqV_str]
      exact decide_eq_false (ix_first hat hm h1)
    refine ⟨_, _, rfl, rfl, ?_⟩
    have himm : ∀ k ∈ imm, -128 ≤ k ∧ k ≤ 255 := fun k hk => by
      rcases hcase with ⟨_, _, _, _, _, _, rfl, _⟩ | ⟨_, _, _, _, k2, _, rfl, h1, h2, _⟩ | ⟨_, _, _, _, k2, _, rfl, h1, h2, _⟩ | ⟨_, k2, _, rfl, h1, h2, _⟩ | ⟨_, _, rfl, _⟩
      · cases hk
      · rw [List.mem_singleton] at hk; rw [hk]; exact ⟨h1, h2⟩
      · rw [List.mem_singleton] at hk; rw [hk]; exact ⟨h1, h2⟩
      · rw [List.mem_singleton] at hk; rw [hk]; exact ⟨by omega, h2⟩
      · cases hk
    have hlen : regs.length ≤ 3 ∧ imm.length ≤ 1 := by
      rcases hcase with ⟨_, _, _, _, _, rfl, rfl, _⟩ | ⟨_, _, _, _, k2, rfl, rfl, h1, h2, _⟩ | ⟨_, _, _, _, k2, rfl, rfl, h1, h2, _⟩ | ⟨_, k2, rfl, rfl, h1, h2, _⟩ | ⟨_, rfl, rfl, _⟩ <;> exact ⟨by simp, by simp⟩
    refine g_of ?_
    dsimp only
    refine s_of ?_
    show tIf _ _ _ _ _ _
    refine te_w (.int ((regs.length : Nat) : Int)) (fun H3 => Same H1 H3) (fun H3 s3 => ?_) (fun Q' key => ?_)
    rotate_left
    · refine ⟨_, rfl, _, _, rfl, rfl, _, rfl, ?_⟩
      by_cases c1 : i < 11
      · refine iteDT (by omega) ?_
        rcases hcase with ⟨_, _, _, _, _, rfl, _⟩ | ⟨c, _⟩ | ⟨c, _⟩ | ⟨c, _⟩ | ⟨c, _⟩
        · exact key _ (Same.refl _)
        all_goals omega
      refine iteDF (by omega) ⟨_, rfl, _, _, rfl, rfl, _, rfl, ?_⟩
      by_cases c2 : i < 15
      · refine iteDT (by omega) ?_
        rcases hcase with ⟨c, _⟩ | ⟨c, _, x, y, k, rfl, _⟩ | ⟨c, _⟩ | ⟨c, _⟩ | ⟨c, _⟩
        · omega
        · exact key _ (Same.refl _)
        all_goals omega
      refine iteDF (by omega) ⟨_, rfl, sz (by show 4 ≤ 1000000; decide), fun u nu => ?_⟩
      generalize hH : upd _ u _ = H2
      have s2 := new_same hH nu
      have e2 := new_at hH
      refine ⟨u, _, rfl, .inr (.inl (.inl e2)), rfl, rfl, _, rfl, ?_⟩
      dsimp only
      have hin : inV (.int ((i : Int) + 1)) [.int 21, .int 24, .int 25, .int 26] = decide (i = 20 ∨ 23 ≤ i) := by
        have go : ∀ i : Fin 26, inV (.int ((i.val : Int) + 1)) [.int 21, .int 24, .int 25, .int 26] = decide (i.val = 20 ∨ 23 ≤ i.val) := by decide +kernel
        exact go ⟨i, hi26⟩
      rw [hin]
      by_cases c3 : i = 20 ∨ 23 ≤ i
      · rw [decide_eq_true c3]
        refine iteF ?_
        rcases hcase with ⟨c, _⟩ | ⟨c, c4, _⟩ | ⟨c, c4, c5, _⟩ | ⟨_, k, rfl, _⟩ | ⟨_, rfl, _⟩
        · omega
        · omega
        · omega
        · exact key _ s2
        · exact key _ s2
      · rw [decide_eq_false c3]
        refine iteT ?_
        rcases hcase with ⟨c, _⟩ | ⟨c, c4, _⟩ | ⟨c, c4, c5, x, k, rfl, _⟩ | ⟨c, _⟩ | ⟨c, _⟩
        · omega
        · omega
        · exact key _ s2
        · omega
        · omega
    · have ht3 := s3 _ _ ht1
      refine ⟨_, rfl, t, _, 0, .str n, rfl, rfl, .inl (.inl ht3), atI_nat (j := 0) rfl, sz (by show 1 ≤ 1000000; decide), fun F nF => ?_⟩
      generalize hH : upd _ F _ = H4
      have s4 := new_same hH nF
      have e4 : H4 F = some (.lst [.str n]) := new_at hH
      refine ⟨_, rfl, _, rfl, t, _, rfl, .inl (.inl (s4 _ _ ht3)), fun h => absurd h (sIx_tail _ _), fun _ u nu => ?_⟩
      generalize hH : upd _ u _ = H5
      have s5 := new_same hH nu
      have e5 := new_at hH
      rw [cut_tail] at e5
      have e5' : H5 u = some (.tup (regs.map (fun r : Nat => V.int (r : Int)) ++ imm.map V.int)) := e5
      have hal : (regs.map (fun r : Nat => V.int (r : Int)) ++ imm.map V.int).length = (saidW regs imm).length := by simp [saidW]
      have hsl : (saidW regs imm).length ≤ 4 := by rw [← hal]; simp; omega
      refine ⟨u, _, rfl, .inl (.inl e5'), ?_⟩
      refine for_it (walk_enumT (xs := regs.map (fun r : Nat => V.int (r : Int)) ++ imm.map V.int)) (SaidI t F ((i : Int) + 1) ((regs.length : Nat) : Int) H5 n (saidW regs imm)) ⟨none, none, rfl, Keep.refl _ _, ?_⟩ (fun m σ H6 _ h => ?_) (fun m v σ H6 H7 hm h y => ?_) (fun σ H6 h => ?_)
      · rw [s5 _ _ e4]
        show some (HO.lst [.str n]) = some (.lst [.str (S (cl n))])
        rw [S_cl]
      · obtain ⟨y4, y5, _, k6, _⟩ := h
        exact .inl (.inl (k6.one (fun z => by rw [z, e4] at nu; cases nu) e5'))
      · obtain ⟨y4, y5, rfl, k6, e6⟩ := h
        obtain ⟨tt, v1, v2, rfl, nt, rfl, h1, h2⟩ := y
        obtain rfl := Option.some.inj h1
        have h2' : (regs.map (fun r : Nat => V.int (r : Int)) ++ imm.map V.int)[m]? = some v2 := h2
        have hm2 : m < (saidW regs imm).length := by rw [← hal]; exact hm
        obtain ⟨k, pre, wm, hk, hpre, hwm, htext, hle⟩ : ∃ (k : Int) (pre : Str) (wm : List Nat), v2 = V.int k ∧ pre = (if decide ((m : Int) < ((regs.length : Nat) : Int)) = true then ("r" : Str) else ("" : Str)) ∧ (saidW regs imm)[m]? = some wm ∧ pre ++ Str.ofString (toString k) = S wm ∧ k.natAbs < 1000 ∧ (Str.ofString (toString k)).length ≤ 1000 := by
          by_cases hmr : m < regs.length
          · rw [List.getElem?_append_left (by rw [List.length_map]; exact hmr), List.getElem?_map, List.getElem?_eq_getElem hmr] at h2'
            have hr := hr8 _ (List.getElem_mem hmr)
            refine ⟨(regs[m] : Int), "r", regW regs[m], (Option.some.inj h2').symm, by rw [if_pos (decide_eq_true (by omega))], ?_, reg_text hr, by omega, ?_⟩
            · unfold saidW
              rw [List.getElem?_append_left (by rw [List.length_map]; exact hmr), List.getElem?_map, List.getElem?_eq_getElem hmr]
              rfl
            · have go : ∀ r : Fin 8, (Str.ofString (toString ((r.val : Nat) : Int))).length ≤ 1000 := by decide +kernel
              exact go ⟨_, hr⟩
          · rw [List.getElem?_append_right (by rw [List.length_map]; omega), List.length_map, List.getElem?_map] at h2'
            obtain ⟨k, hk, rfl⟩ := Option.map_eq_some_iff.mp h2'
            obtain ⟨b1, b2⟩ := himm k (List.mem_of_getElem? hk)
            obtain ⟨g1, _, _⟩ := numT_ok b1 b2
            refine ⟨k, "", numT k, rfl, by rw [if_neg (fun z => hmr (by have := of_decide_eq_true z; omega))], ?_, imm_text k, by omega, ?_⟩
            · unfold saidW
              rw [List.getElem?_append_right (by rw [List.length_map]; omega), List.length_map, List.getElem?_map, hk]
              rfl
            · have g2 := goodW_len g1
              have e : (Str.ofString (toString k)).length = (numT k).length := by
                unfold numT
                rw [← S_len, S_cl]
              rw [e]
              omega
        subst hk
        refine ⟨tt, _, rfl, .inl (.inl upd_same), rfl, _, _, rfl, _, _, rfl, rfl, ?_⟩
        have e7 := same_new (o := .tup [.int (m : Nat), .int k]) nt _ _ e6
        refine ⟨_, rfl, .inl ⟨rfl, _, .inl (.inl e7)⟩, ?_⟩
        show tOp _ _ _ _ _ _
        have hpick : ∀ (σ : L2.St) (H8 : Hp) (C : V → Hp → Prop), σ[4]? = some (some (.int ((m : Nat) : Int))) → σ[2]? = some (some (.int ((regs.length : Nat) : Int))) → C (.str pre) H8 →
            tIf (tTest (tOp (rI0 fun i j => V.bl (decide (i < j))) (tVar 4) (tVar 2))) (tC (V.str "r")) (tC (V.str "")) σ H8 C := fun σ H8 C g1 g2 hC => by
          refine ⟨_, g1, _, g2, _, _, rfl, rfl, _, rfl, ?_⟩
          rw [hpre] at hC
          by_cases hmr : (m : Int) < ((regs.length : Nat) : Int)
          · rw [if_pos (decide_eq_true hmr)] at hC
            exact iteDT hmr hC
          · rw [if_neg (fun z => hmr (of_decide_eq_true z))] at hC
            exact iteDF hmr hC
        refine hpick _ _ _ rfl rfl ?_
        refine ⟨_, rfl, k, rfl, log2_small (Nat.lt_trans hle.1 (by decide)), _, _, rfl, rfl, ?_, ?_⟩
        · have h1 : pre.length ≤ 1 := by
            rw [hpre]
            split <;> decide
          exact sz (by omega)
        · rw [htext]
          refine ⟨F, _, _, rfl, rfl, e7, szl (by rw [List.length_map, List.length_cons, List.length_take]; omega), ?_⟩
          refine ⟨_, _, rfl, k6.trans ((Keep.of_same (same_new nt)).trans (Keep.put (by simp))), ?_⟩
          rw [upd_same, List.take_succ, hwm]
          simp [strV]
      · obtain ⟨y4, y5, rfl, k6, e6⟩ := h
        rw [hal, List.take_length] at e6
        refine ⟨_, rfl, q _ F (fun b o e => ?_) ?_ e6⟩
        · have e3 := s3 _ _ (s1 _ _ e)
          exact k6.one (ne_of_none e3 nF) (s5 _ _ (s4 _ _ e3))
        · exact s1.free (s3.free nF)
end
end K21
/-! ## K21Item -/
set_option Elab.async false
set_option linter.all false
set_option maxRecDepth 100000
set_option maxHeartbeats 4000000
namespace K21
open PySem PySem.Spec PyProof.Rows L2
/-! the items of the law -/
inductive IK where
  | con (n : Nat)
  | at_
  | space (n : Nat)
  | text (s : List Nat)
  | word (n : Nat)
  | set
  | six
  | seven
  | ins (s : Nat) (n : Str) (regs : List Nat) (imm : List Int)
def IK.sort : IK → Nat
  | .con _ => 0
  | .at_ => 1
  | .space _ => 2
  | .text _ => 3
  | .word _ => 4
  | .set => 5
  | .six => 6
  | .seven => 7
  | .ins s _ _ _ => s
def IK.size : IK → Nat
  | .con _ => 0
  | .at_ => 0
  | .space n => n
  | .text s => s.length
  | .word n => n
  | .set => 2
  | _ => 1
def texts : List (List Nat) := [[], cl "a", cl "hi; you", cl "  ", cl "z~!"]
def IK.Ok : IK → Prop
  | .con n => 3 ≤ n ∧ n < 16
  | .space n => n < 4
  | .text s => s ∈ texts
  | .word n => 1 ≤ n ∧ n ≤ 3
  | .ins s n regs imm => 8 ≤ s ∧ s ≤ 9 ∧ InsOk n regs imm
  | _ => True
theorem IK.size_le {k : IK} (h : k.Ok) : k.size ≤ 7 := by
  cases k with
  | space n => have : n < 4 := h; show n ≤ 7; omega
  | text s =>
    have go : ∀ s ∈ texts, s.length ≤ 7 := by decide +kernel
    exact go s h
  | word n => have := h.2; show n ≤ 7; omega
  | con n => exact Nat.zero_le _
  | at_ => exact Nat.zero_le _
  | set => show 2 ≤ 7; decide
  | six => show 1 ≤ 7; decide
  | seven => show 1 ≤ 7; decide
  | ins s n r i => show 1 ≤ 7; decide
structure Item where
  lab : Bool
  kind : IK
  place : Nat
def Item.stop (it : Item) : Nat := it.place + it.kind.size
def endM (its : List Item) : Nat := its.foldl (fun _ it => it.stop) 0
theorem endM_snoc (its : List Item) (it : Item) : endM (its ++ [it]) = it.stop := by
  unfold endM
  rw [List.foldl_append]
  rfl
def ItOk (p : Nat) (it : Item) : Prop := it.kind.Ok ∧ (it.lab = true → it.kind.sort ≠ 0) ∧ p ≤ it.place ∧ it.place ≤ p + 5 ∧ (it.kind.sort ≠ 1 → it.place = p)
def ItemsOk (its : List Item) : Prop := ∀ (t : Nat) (it : Item), its[t]? = some it → ItOk (endM (its.take t)) it
theorem ItemsOk.nil : ItemsOk [] := fun t it h => by simp at h
theorem ItemsOk.snoc {its : List Item} {it : Item} (h : ItemsOk its) (k : ItOk (endM its) it) : ItemsOk (its ++ [it]) := fun t x e => by
  by_cases ht : t < its.length
  · rw [List.getElem?_append_left ht] at e
    rw [List.take_append_of_le_length (by omega)]
    exact h t x e
  · have ht2 : t = its.length := by
      have := (List.getElem?_eq_some_iff.mp e).1
      simp at this
      omega
    subst ht2
    simp at e
    rw [← e]
    simpa using k
theorem ItemsOk.end_le {its : List Item} (h : ItemsOk its) : ∀ n, n ≤ its.length → endM (its.take n) ≤ 12 * n := fun n => by
  induction n with
  | zero => intro _; exact Nat.le_refl _
  | succ n ih =>
    intro hn
    have hlt : n < its.length := hn
    rw [List.take_succ_eq_append_getElem hlt, endM_snoc]
    obtain ⟨h1, _, _, h2, _⟩ := h n its[n] (List.getElem?_eq_getElem hlt)
    have := ih (by omega)
    have := IK.size_le h1
    unfold Item.stop
    omega
def nmL (t : Nat) : List Nat := 108 :: numT (t : Int)
def nmC (t : Nat) : List Nat := 99 :: numT (t : Int)
def nmM (t : Nat) : List Nat := 109 :: numT (t : Int)
def labV (t : Nat) (b : Bool) : V := if b = true then .str (S (nmL t)) else .non
def MoreAt (H : Hp) (v : V) : IK → Prop
  | .con n => v = .int (n : Int)
  | .at_ => v = .non
  | .space n => v = .int (n : Int)
  | .text s => v = .str (S s)
  | .word n => v = .int (n : Int)
  | .ins _ n regs imm => ∃ q, v = .ref q ∧ InsAt H q n regs imm
  | _ => v = .non
theorem MoreAt.keep {Sx : List Addr} {H H' : Hp} (n : NoTup Sx H) (k : Keep Sx H H') {v : V} {x : IK} (h : MoreAt H v x) : MoreAt H' v x := by
  cases x with
  | ins s m r i =>
    obtain ⟨q, e, h⟩ := h
    exact ⟨q, e, k _ _ (n.out h) h⟩
  | _ => exact h
def ItemV (F : Addr → Prop) (H : Hp) (y : V) (t : Nat) (it : Item) : Prop := ∃ a vm, y = .ref a ∧ F a ∧ H a = some (.lst [labV t it.lab, .int (it.kind.sort : Int), vm, .int (it.place : Int)]) ∧ MoreAt H vm it.kind
theorem ItemV.keep {Sx : List Addr} {F : Addr → Prop} {H H' : Hp} (n : NoTup Sx H) (k : Keep Sx H H') (hF : ∀ a, F a → a ∉ Sx) {y : V} {t : Nat} {it : Item} (h : ItemV F H y t it) : ItemV F H' y t it := by
  obtain ⟨a, vm, e, f, h1, h2⟩ := h
  exact ⟨a, vm, e, f, k _ _ (hF a f) h1, h2.keep n k⟩
theorem ItemV.mono {F G : Addr → Prop} {H : Hp} (hF : ∀ a, F a → G a) {y : V} {t : Nat} {it : Item} (h : ItemV F H y t it) : ItemV G H y t it := by
  obtain ⟨a, vm, e, f, h⟩ := h
  exact ⟨a, vm, e, hF a f, h⟩
def ItemsAt (F : Addr → Prop) (H : Hp) (ys : List V) (its : List Item) : Prop := ys.length = its.length ∧ ∀ (t : Nat) (y : V) (it : Item), ys[t]? = some y → its[t]? = some it → ItemV F H y t it
theorem ItemsAt.imp {F G : Addr → Prop} {H H' : Hp} {ys : List V} {its : List Item} (h : ItemsAt F H ys its) (k : ∀ y t it, ItemV F H y t it → ItemV G H' y t it) : ItemsAt G H' ys its := ⟨h.1, fun t y it a b => k y t it (h.2 t y it a b)⟩
theorem ItemsAt.snoc {F : Addr → Prop} {H : Hp} {ys : List V} {its : List Item} {y : V} {it : Item} (h : ItemsAt F H ys its) (k : ItemV F H y its.length it) : ItemsAt F H (ys ++ [y]) (its ++ [it]) := by
  refine ⟨by simp [h.1], fun t x z a b => ?_⟩
  have hl := h.1
  by_cases ht : t < its.length
  · rw [List.getElem?_append_left (by omega)] at a
    rw [List.getElem?_append_left ht] at b
    exact h.2 t x z a b
  · have ht2 : t = its.length := by
      have := (List.getElem?_eq_some_iff.mp b).1
      simp at this
      omega
    subst ht2
    rw [← hl] at a
    simp at a b
    rw [← a, ← b]
    exact k
end K21
/-! ## WW -/
set_option Elab.async false
set_option linter.all false
set_option maxRecDepth 100000
set_option maxHeartbeats 4000000
namespace K21
open PySem PySem.Spec PyProof.Rows L2 C8
local macro_rules | `(tactic| walk_at "adv") => `(tactic| repeat (first | refine ⟨_, rfl, ?_⟩ | refine ⟨rfl, ?_⟩ | refine ⟨_, _, rfl, rfl, ?_⟩ | refine iteT ?_ | refine iteF ?_))

theorem pre_text (c : Nat) (k : Int) : S [c] ++ Str.ofString (toString k) = S (c :: numT k) := by
  unfold numT
  rw [← S_cl (Str.ofString (toString k)), S_cat]
  rfl
theorem str_l : ("l" : Str) = S [108] := by decide +kernel
theorem str_c : ("c" : Str) = S [99] := by decide +kernel
theorem str_m : ("m" : Str) = S [109] := by decide +kernel
theorem numT_short {k : Int} (h1 : -128 ≤ k) (h2 : k ≤ 255) : (Str.ofString (toString k)).length ≤ 20 := by
  have e : (Str.ofString (toString k)).length = (numT k).length := by
    unfold numT
    rw [← S_len, S_cl]
  rw [e]
  exact goodW_len (numT_ok h1 h2).1
theorem log2_few {k : Int} (h : k.natAbs < 1000000) : k.natAbs.log2 < 1920 := by
  refine log2_small (Nat.lt_trans h ?_)
  exact Nat.lt_of_lt_of_le (show 1000000 < 2 ^ 20 by decide) (Nat.pow_le_pow_right (by decide) (by decide))
def ItemI (p F : Addr) (n : Nat) (H0 : Hp) (i : Nat) (σ : L2.St) (H : Hp) : Prop := ∃ (its : List Item) (ys : List V) (y4 y5 y6 y7 y8 : Option V), σ = [some (.ref p), some (.int (n : Int)), some (.ref F), some (.int (endM its : Int)), y4, y5, y6, y7, y8] ∧ Keep [p, F] H0 H ∧ PotOk H p ∧ its.length = i ∧ ItemsOk its ∧ H F = some (.lst ys) ∧ ItemsAt (fun a => H0 a = none ∧ a ≠ p ∧ a ≠ F) H ys its
def KindI (p F : Addr) (n i d : Nat) (e : Nat) (H3 : Hp) (σ : L2.St) (H : Hp) : Prop := ∃ (k : IK) (pl : Nat) (vm : V) (y8 : Option V), σ = [some (.ref p), some (.int (n : Int)), some (.ref F), some (.int (pl : Int)), some (.int (i : Int)), some (.int (d : Int)), some (.int (k.size : Int)), some vm, y8] ∧
  Keep [p] H3 H ∧ PotOk H p ∧ k.Ok ∧ k.sort = d ∧ MoreAt H vm k ∧ e ≤ pl ∧ pl ≤ e + 5 ∧ (d ≠ 1 → pl = e)
theorem texts_at : ∀ (d : Nat) (x : V), ([.str "", .str "a", .str "hi; you", .str "  ", .str "z~!"] : List V)[d]? = some x → ∃ s ∈ texts, x = .str (S s) := fun d x h => by
  have e : ([.str "", .str "a", .str "hi; you", .str "  ", .str "z~!"] : List V) = texts.map fun s => V.str (S s) := by decide +kernel
  rw [e, List.getElem?_map] at h
  obtain ⟨s, h1, h2⟩ := Option.map_eq_some_iff.mp h
  exact ⟨s, List.mem_of_getElem? h1, h2.symm⟩
theorem texts_len : ∀ s ∈ texts, s.length ≤ 7 := by decide +kernel

section
variable {P : Program} {w : World} {K : PySem.W.Frag} {mg : Str → Option Value} {base : Heap}
abbrev N_law_items : List Str := ["_law_pot_here", "_law_many", "_law_found", "_law_place", "_law_turn", "_law_sort", "_law_size", "_law_more", "_law_label"]
theorem sc_law_items : FnScope N_law_items ["_law_pot_here", "_law_many"] (defScope s_law_items) := ⟨rfl, rfl, rfl, by decide +kernel, rfl, by decide +kernel, by decide +kernel⟩
def sp_law_items : Sp := fun vs H Q _ => ∃ (p : Addr) (n : Nat), vs = [.ref p, .int (n : Int)] ∧ PotOk H p ∧ n ≤ 11 ∧ ∀ H' L ys its, Keep [p] H H' → PotOk H' p → H L = none → H' L = some (.lst ys) → ItemsAt (fun a => H a = none) H' ys its → ItemsOk its → its.length = n → Q (.ref L) H'
theorem cal_law_items (T : Tx w K mg) : C8.Cal P w K mg base 3 "_law_items" sp_law_items [] := by
  have c_law_draw := cal_law_draw (P := P) (base := base) T
  have c_law_pick := cal_law_pick (P := P) (base := base) T
  have c_law_instruction := cal_law_instruction (P := P) (base := base) T
  refine cal_of (st := s_law_items) (ps := ["_law_pot_here", "_law_many"]) T.d_law_items T.m_law_items sc_law_items (fun _ _ _ _ _ _ us hl => match us, hl with | [_, _], _ => rfl) (fun vs H Q E h => ?_) (fun cdv A outer s H vs Q E hr h => ?_)
  · obtain ⟨p, n, rfl, _⟩ := h
    rfl
  · obtain ⟨p, n, rfl, hp, hn, q⟩ := h
    refine ⟨_, (pss_cons (ps_par (i := 2) (j := 3) (by rfl) sc_law_items.nd rfl rfl (by decide) rfl rfl (pa_cons (pe_lst pa_nil) (pa_cons pe_int pa_nil)) (by rfl))
      (pss_cons (ps_for PassesOwn.never rfl (pi_range1 rfl T.f_range (pa_cons (pv 1) pa_nil)) (pg_name (i := 4) sc_law_items.nd rfl (Or.inl rfl))
        (pss_cons (ps_par3 (i := 5) (j := 6) (l := 7) (by rfl) sc_law_items.nd rfl rfl rfl (by decide) (by decide) (by decide) rfl rfl rfl (pa_cons (pe_c c_law_draw hr (by decide) (by rfl) (pa_cons (pv 0) (pa_cons pe_int pa_nil))) (pa_cons pe_int (pa_cons pe_non pa_nil))) (by rfl))
        (pss_cons (ps_if (pt_cmpR op_eq (pv 5) pe_int (nomark _))
          (pss_one (ps_par (i := 6) (j := 7) (by rfl) sc_law_items.nd rfl rfl (by decide) rfl rfl (pa_cons pe_int (pa_cons (pe_op op_add pe_int (pe_c c_law_draw hr (by decide) (by rfl) (pa_cons (pv 0) (pa_cons pe_int pa_nil)))) pa_nil)) (by rfl)))
          (pss_one (ps_if (pt_cmpR op_eq (pv 5) pe_int (nomark _))
            (pss_one (ps_par (i := 3) (j := 6) (by rfl) sc_law_items.nd rfl rfl (by decide) rfl rfl (pa_cons (pe_op op_add (pv 3) (pe_c c_law_draw hr (by decide) (by rfl) (pa_cons (pv 0) (pa_cons pe_int pa_nil)))) (pa_cons pe_int pa_nil)) (by rfl)))
            (pss_one (ps_if (pt_cmpR op_eq (pv 5) pe_int (nomark _))
              (pss_cons (ps_set (i := 7) sc_law_items.nd rfl (Or.inl rfl) (pe_c c_law_draw hr (by decide) (by rfl) (pa_cons (pv 0) (pa_cons pe_int pa_nil))))
              (pss_one (ps_set (i := 6) sc_law_items.nd rfl (Or.inl rfl) (pv 7))))
              (pss_one (ps_if (pt_cmpR op_eq (pv 5) pe_int (nomark _))
                (pss_cons (ps_set (i := 7) sc_law_items.nd rfl (Or.inl rfl) (pe_c c_law_pick hr (by decide) (by rfl) (pa_cons (pv 0) (pa_cons (pe_lst (pa_cons pe_str (pa_cons pe_str (pa_cons pe_str (pa_cons pe_str (pa_cons pe_str pa_nil)))))) pa_nil))))
                (pss_one (ps_set (i := 6) sc_law_items.nd rfl (Or.inl rfl) (pe_callB call_len_str (by rfl) T.f_len (by decide +kernel) (pa_cons (pv 7) pa_nil)))))
                (pss_one (ps_if (pt_cmpR op_eq (pv 5) pe_int (nomark _))
                  (pss_cons (ps_set (i := 7) sc_law_items.nd rfl (Or.inl rfl) (pe_op op_add pe_int (pe_c c_law_draw hr (by decide) (by rfl) (pa_cons (pv 0) (pa_cons pe_int pa_nil)))))
                  (pss_one (ps_set (i := 6) sc_law_items.nd rfl (Or.inl rfl) (pv 7))))
                  (pss_one (ps_if (pt_cmpR op_eq (pv 5) pe_int (nomark _))
                    (pss_one (ps_set (i := 6) sc_law_items.nd rfl (Or.inl rfl) pe_int))
                    (pss_one (ps_if (pt_cmpR op_gt (pv 5) pe_int (nomark _))
                      (pss_one (ps_set (i := 7) sc_law_items.nd rfl (Or.inl rfl) (pe_c c_law_instruction hr (by decide) (by rfl) (pa_cons (pv 0) pa_nil))))
                      pss_nil)))))))))))))
        (pss_cons (ps_set (i := 8) sc_law_items.nd rfl (Or.inl rfl) (pe_ifExp (PW.pt (pw_and (pt_cmpR op_ne (pv 5) pe_int (nomark _)) (pw_and1 (pt_cmpR op_eq (pe_c c_law_draw hr (by decide) (by rfl) (pa_cons (pv 0) (pa_cons pe_int pa_nil))) pe_int (nomark _))))) (pe_op op_add_str pe_str (pe_callTy call_str_int (by rfl) T.f_str (by decide +kernel) (pa_cons (pv 4) pa_nil))) pe_non))
        (pss_cons (ps_expr (pe_bm PySem.F.plainAttrs_list PySem.F.slot_list_append PySem.F.type_list_append mt_append (pv 2) (pa_cons (pe_lst (pa_cons (pv 8) (pa_cons (pv 5) (pa_cons (pv 7) (pa_cons (pv 3) pa_nil))))) pa_nil)))
        (pss_one (ps_set (i := 3) sc_law_items.nd rfl (Or.inl rfl) (pe_op op_add (pv 3) (pv 6)))))))))
      (pss_one (ps_ret (pv 2))))), ?_⟩
    refine ⟨Nat.zero_le _, fun F nF => ?_⟩
    generalize hH : upd H F _ = H1
    have s1 := new_same hH nF
    have e1 : H1 F = some (.lst []) := new_at hH
    have pF : p ≠ F := fun z => by
      obtain ⟨_, _, e, _⟩ := hp
      rw [z, nF] at e
      cases e
    refine ⟨_, _, rfl, _, rfl, _, rfl, by omega, by omega, ?_⟩
    refine for_it (walk_range (lo := 0) (n := n)) (ItemI p F n H) ⟨[], [], none, none, none, none, none, rfl, (Keep.of_same s1), hp.same s1, rfl, ItemsOk.nil, e1, ⟨rfl, fun t y it a => by simp at a⟩⟩ (fun _ _ _ _ _ => trivial) (fun i v σ H20 H2 hi h y => ?_) (fun σ H2 h => ?_)
    rotate_left
    · obtain ⟨its, ys, y4, y5, y6, y7, y8, rfl, k2, hp2, hl, hok, eF, hI⟩ := h
      refine ⟨_, rfl, q H2 F ys its (fun b o hb hz => k2 b o (by simp [ne_of_none hz nF]; simpa using hb) hz) hp2 nF eF (hI.imp fun y t it r => r.mono fun a h => h.1) hok hl⟩
    obtain ⟨its, ys, y4, y5, y6, y7, y8, rfl, k2, hp2, hl, hok, eF, hI⟩ := h
    obtain ⟨rfl, rfl⟩ := y
    rw [show (fun i : Nat => V.int (0 + (i : Int))) i = V.int (i : Int) by dsimp only; rw [Int.zero_add]]
    refine ⟨_, rfl, p, 10, rfl, hp2, by decide, by decide, fun d H3 hd k3 hp3 => ⟨_, _, _, rfl, ?_⟩⟩
    dsimp only
    refine seq_v (KindI p F n i d (endM its) H3) (fun σ' H4 hP => ?_) (fun N key => ?_)
    rotate_left
    · refine ⟨_, rfl, rfl, _, rfl, ?_⟩
      by_cases c0 : d = 0
      · refine iteDT (by rw [c0]; rfl) ⟨_, rfl, p, 13, rfl, hp3, by decide, by decide, fun e H4 he k4 hp4 => ⟨_, _, rfl, rfl, _, _, rfl, ?_⟩⟩
        exact key _ _ ⟨.con (3 + e), endM its, _, _, rfl, k4, hp4, ⟨by omega, by omega⟩, c0.symm, (by show V.int (3 + (e : Int)) = V.int ((3 + e : Nat) : Int); congr 1), Nat.le_refl _, by omega, fun _ => rfl⟩
      refine iteDF (fun z => c0 (by have := V.int.inj z; omega)) ⟨_, rfl, rfl, _, rfl, ?_⟩
      by_cases c1 : d = 1
      · refine iteDT (by rw [c1]; rfl) ⟨_, rfl, _, rfl, p, 6, rfl, hp3, by decide, by decide, fun e H4 he k4 hp4 => ⟨_, _, rfl, rfl, _, _, rfl, ?_⟩⟩
        have := key [some (.ref p), some (.int (n : Int)), some (.ref F), some (.int ((endM its + e : Nat) : Int)), some (.int (i : Int)), some (.int (d : Int)), some (.int ((0 : Nat) : Int)), some .non, y8] H4 ⟨.at_, endM its + e, .non, y8, rfl, k4, hp4, trivial, c1.symm, rfl, by omega, by omega, fun z => absurd c1 z⟩
        rw [show ((endM its + e : Nat) : Int) = (endM its : Int) + (e : Int) by omega] at this
        exact this
      refine iteDF (fun z => c1 (by have := V.int.inj z; omega)) ⟨_, rfl, rfl, _, rfl, ?_⟩
      by_cases c2 : d = 2
      · refine iteDT (by rw [c2]; rfl) ⟨_, rfl, p, 4, rfl, hp3, by decide, by decide, fun e H4 he k4 hp4 => ⟨_, rfl, ?_⟩⟩
        exact key _ _ ⟨.space e, endM its, _, _, rfl, k4, hp4, he, c2.symm, rfl, Nat.le_refl _, by omega, fun _ => rfl⟩
      refine iteDF (fun z => c2 (by have := V.int.inj z; omega)) ⟨_, rfl, rfl, _, rfl, ?_⟩
      by_cases c3 : d = 3
      · refine iteDT (by rw [c3]; rfl) ⟨_, rfl, sz (by show 5 ≤ 1000000; decide), fun u nu => ?_⟩
        generalize hH : upd _ u _ = H4
        have s4 := new_same hH nu
        have e4 := new_at hH
        have up : u ≠ p := fun z => by
          obtain ⟨_, _, e, _⟩ := hp3
          rw [z, e] at nu
          cases nu
        refine ⟨p, u, _, rfl, hp3.same s4, e4, up, by show 0 < 5; decide, by show 5 ≤ 1000; decide, fun e x H5 hx k5 hp5 => ?_⟩
        obtain ⟨sx, hsx, rfl⟩ := texts_at e x hx
        have hl7 := texts_len sx hsx
        refine ⟨_, rfl, _, rfl, sz (by rw [S_len]; omega), ?_⟩
        rw [S_len]
        exact key _ _ ⟨.text sx, endM its, _, _, rfl, (Keep.of_same s4).trans k5, hp5, hsx, c3.symm, rfl, Nat.le_refl _, by omega, fun _ => rfl⟩
      refine iteDF (fun z => c3 (by have := V.int.inj z; omega)) ⟨_, rfl, rfl, _, rfl, ?_⟩
      by_cases c4 : d = 4
      · refine iteDT (by rw [c4]; rfl) ⟨_, rfl, p, 3, rfl, hp3, by decide, by decide, fun e H4 he k4 hp4 => ⟨_, _, rfl, rfl, _, rfl, ?_⟩⟩
        have := key _ _ ⟨.word (1 + e), endM its, .int ((1 + e : Nat) : Int), y8, rfl, k4, hp4, ⟨by omega, by omega⟩, c4.symm, rfl, Nat.le_refl _, by omega, fun _ => rfl⟩
        rw [show ((1 + e : Nat) : Int) = 1 + (e : Int) by omega, show (IK.word (1 + e)).size = 1 + e from rfl, show ((1 + e : Nat) : Int) = 1 + (e : Int) by omega] at this
        exact this
      refine iteDF (fun z => c4 (by have := V.int.inj z; omega)) ⟨_, rfl, rfl, _, rfl, ?_⟩
      by_cases c5 : d = 5
      · refine iteDT (by rw [c5]; rfl) ?_
        have := key _ _ ⟨.set, endM its, .non, y8, rfl, Keep.refl _ _, hp3, trivial, c5.symm, rfl, Nat.le_refl _, by omega, fun _ => rfl⟩
        exact this
      refine iteDF (fun z => c5 (by have := V.int.inj z; omega)) ⟨_, rfl, _, _, rfl, rfl, _, rfl, ?_⟩
      by_cases c7 : 7 < d
      · refine iteDT (by omega) ⟨_, rfl, p, rfl, hp3, fun H4 t m regs imm k4 hp4 nt et hok4 => ?_⟩
        have := key _ _ ⟨.ins d m regs imm, endM its, .ref t, y8, rfl, k4, hp4, ⟨by omega, by omega, hok4⟩, rfl, ⟨t, rfl, et⟩, Nat.le_refl _, by omega, fun _ => rfl⟩
        exact this
      · refine iteDF (by omega) ?_
        by_cases c6 : d = 6
        · have := key _ _ ⟨.six, endM its, .non, y8, rfl, Keep.refl _ _, hp3, trivial, c6.symm, rfl, Nat.le_refl _, by omega, fun _ => rfl⟩
          exact this
        · have := key _ _ ⟨.seven, endM its, .non, y8, rfl, Keep.refl _ _, hp3, trivial, (by show 7 = d; omega), rfl, Nat.le_refl _, by omega, fun _ => rfl⟩
          exact this
    · obtain ⟨k, pl, vm, y8, rfl, k4, hp4, hkok, hks, hmore, hpl1, hpl2, hpl3⟩ := hP
      refine seq_v (fun σ' H5 => ∃ b : Bool, σ' = [some (.ref p), some (.int (n : Int)), some (.ref F), some (.int (pl : Int)), some (.int (i : Int)), some (.int (d : Int)), some (.int (k.size : Int)), some vm, some (labV i b)] ∧ Keep [p] H4 H5 ∧ PotOk H5 p ∧ (b = true → d ≠ 0)) (fun σ' H5 hP2 => ?_) (fun N2 key2 => ?_)
      rotate_left
      · refine ⟨_, rfl, rfl, _, rfl, ?_⟩
        by_cases c0 : d = 0
        · refine iteNF (by rw [c0]; rfl) (iteF ?_)
          exact key2 _ _ ⟨false, rfl, Keep.refl _ _, hp4, fun z => by cases z⟩
        · refine iteNT (fun z => c0 (by have := V.int.inj z; omega)) ⟨_, rfl, p, 2, rfl, hp4, by decide, by decide, fun e H5 he k5 hp5 => ⟨rfl, _, rfl, ?_⟩⟩
          by_cases ce : e = 0
          · refine iteDT (by rw [ce]; rfl) ⟨_, rfl, _, rfl, log2_few (by omega), _, _, rfl, rfl, ?_, ?_⟩
            · have := numT_short (k := (i : Int)) (by omega) (by omega)
              have h1 : ("l" : Str).length = 1 := by decide +kernel
              exact sz (by omega)
            · rw [str_l, pre_text]
              exact key2 _ _ ⟨true, rfl, k5, hp5, fun _ => c0⟩
          · refine iteDF (fun z => ce (by have := V.int.inj z; omega)) ?_
            exact key2 _ _ ⟨false, rfl, k5, hp5, fun z => by cases z⟩
      · obtain ⟨b, rfl, k5, hp5, hb⟩ := hP2
        have FP : F ∉ [p] := by simp; exact fun z => pF z.symm
        have k35 : Keep [p] H2 H5 := k3.trans (k4.trans k5)
        have eF5 := k35 _ _ FP eF
        have hyl := hI.1
        refine ⟨_, rfl, .inl ⟨rfl, _, .inl (.inl eF5)⟩, _, rfl, _, rfl, _, rfl, _, rfl, sz (by show 4 ≤ 1000000; decide), fun t nt => ?_⟩
        generalize hH : upd _ t _ = H6
        have s6 := new_same hH nt
        have e6 : H6 t = some (.lst [labV i b, .int (d : Int), vm, .int (pl : Int)]) := new_at hH
        have tp : t ≠ p := fun z => by
          obtain ⟨_, _, e, _⟩ := hp5
          rw [z, e] at nt
          cases nt
        have tF : t ≠ F := fun z => by rw [z, eF5] at nt; cases nt
        refine ⟨F, ys, _, rfl, rfl, s6 _ _ eF5, szl (by omega), ?_⟩
        generalize hH : upd H6 F _ = H7
        have k7 : Keep [F] H6 H7 := by rw [← hH]; exact Keep.put (by simp)
        have e7 := new_at hH
        refine ⟨_, rfl, _, rfl, _, _, rfl, rfl, ?_⟩
        have kA : Keep [p, F] H2 H7 := (k35.mono (by simp)).trans ((Keep.of_same s6).trans (k7.mono (by simp)))
        have n2 : NoTup [p, F] H2 := fun a ha xs e => by
          have : a = p ∨ a = F := by simpa using ha
          rcases this with z | z
          · obtain ⟨_, _, e2, _⟩ := hp2
            rw [z, e2] at e; cases e
          · rw [z, eF] at e; cases e
        have n4 : NoTup [p, F] H4 := fun a ha xs e => by
          have : a = p ∨ a = F := by simpa using ha
          rcases this with z | z
          · obtain ⟨_, _, e2, _⟩ := hp4
            rw [z, e2] at e; cases e
          · rw [z, (k3.trans k4) _ _ FP eF] at e; cases e
        have kB : Keep [p, F] H4 H7 := (k5.mono (by simp)).trans ((Keep.of_same s6).trans (k7.mono (by simp)))
        have t0 : H t = none := fresh_keep k2 (by simp [tp, tF]) (fresh_keep k35 (by simp [tp]) nt)
        have hit : ItOk (endM its) ⟨b, k, pl⟩ := ⟨hkok, fun z => by rw [hks]; exact hb z, hpl1, hpl2, fun z => hpl3 (by rw [← hks]; exact z)⟩
        refine ⟨its ++ [⟨b, k, pl⟩], ys ++ [.ref t], some (.int (i : Int)), some (.int (d : Int)), some (.int (k.size : Int)), some vm, some (labV i b), ?_, k2.trans kA, hp5.keep ((Keep.of_same s6).trans k7) (by simp [pF]), by simp [hl], hok.snoc hit, e7, ?_⟩
        · rw [endM_snoc]
          rfl
        · refine ItemsAt.snoc (hI.imp fun y t it r => r.keep n2 kA fun a h m => ?_) ⟨t, vm, rfl, ⟨t0, tp, tF⟩, ?_, hmore.keep n4 kB⟩
          · have : a = p ∨ a = F := by simpa using m
            rcases this with z | z
            · exact h.2.1 z
            · exact h.2.2 z
          · rw [hl, hks]
            exact k7.one tF e6
end
end K21
/-! ## WX -/
set_option Elab.async false
set_option linter.all false
set_option maxRecDepth 100000
set_option maxHeartbeats 4000000
namespace K21
open PySem PySem.Spec PyProof.Rows L2 C8
local macro_rules | `(tactic| walk_at "adv") => `(tactic| repeat (first | refine ⟨_, rfl, ?_⟩ | refine ⟨rfl, ?_⟩ | refine ⟨_, _, rfl, rfl, ?_⟩ | refine iteT ?_ | refine iteF ?_))

/-! names of the law's text -/
inductive NK where
  | c
  | l
  | m
def nmK : NK → Nat → List Nat
  | .c, t => nmC t
  | .l, t => nmL t
  | .m, t => nmM t
theorem numT_inj : ∀ i j : Fin 16, numT ((i.val : Nat) : Int) = numT ((j.val : Nat) : Int) → i.val = j.val := by decide +kernel
theorem nmK_inj {a b : NK} {i j : Nat} (hi : i < 16) (hj : j < 16) (h : nmK a i = nmK b j) : a = b ∧ i = j := by
  cases a <;> cases b <;> first
    | exact ⟨rfl, numT_inj ⟨i, hi⟩ ⟨j, hj⟩ (List.cons.inj h).2⟩
    | exact absurd (List.cons.inj h).1 (by decide)
abbrev TL2 := List (List Nat × Int)
def conN (t : Nat) : IK → TL2
  | .con n => [(nmC t, (n : Int))]
  | _ => []
def labT (t : Nat) (it : Item) : TL2 := if it.lab = true then [(nmL t, (it.place : Int))] else []
def itemN (t : Nat) (it : Item) : TL2 := conN t it.kind ++ labT t it
theorem conN_len (t : Nat) (k : IK) : (conN t k).length ≤ 1 := by cases k <;> simp [conN]
theorem conN_mem {t : Nat} {k : IK} {q : List Nat × Int} (h : q ∈ conN t k) : q.1 = nmC t := by
  cases k with
  | con n =>
    have : q = (nmC t, (n : Int)) := by simpa [conN] using h
    rw [this]
  | _ => cases h
theorem labT_len (t : Nat) (it : Item) : (labT t it).length ≤ 1 := by unfold labT; split <;> simp
theorem labT_mem {t : Nat} {it : Item} {q : List Nat × Int} (h : q ∈ labT t it) : q = (nmL t, (it.place : Int)) ∧ it.lab = true := by
  unfold labT at h
  split at h
  · rename_i hb
    exact ⟨by simpa using h, hb⟩
  · cases h
def namesT : Nat → List Item → TL2
  | _, [] => []
  | t, it :: r => itemN t it ++ namesT (t + 1) r
theorem namesT_snoc : ∀ (t : Nat) (its : List Item) (it : Item), namesT t (its ++ [it]) = namesT t its ++ itemN (t + its.length) it
  | t, [], it => by simp [namesT]
  | t, x :: r, it => by
    show itemN t x ++ namesT (t + 1) (r ++ [it]) = itemN t x ++ namesT (t + 1) r ++ itemN (t + (r.length + 1)) it
    rw [namesT_snoc (t + 1) r it, List.append_assoc]
    have e : t + 1 + r.length = t + (r.length + 1) := by omega
    rw [e]
theorem namesT_take (its : List Item) (i : Nat) (h : i < its.length) : namesT 0 (its.take (i + 1)) = namesT 0 (its.take i) ++ itemN i its[i] := by
  rw [List.take_succ_eq_append_getElem h, namesT_snoc, List.length_take, Nat.min_eq_left (by omega), Nat.zero_add]
theorem itemN_mem {t : Nat} {it : Item} {q : List Nat × Int} (h : q ∈ itemN t it) : q.1 = nmC t ∨ q.1 = nmL t := by
  rcases List.mem_append.mp h with h | h
  · exact .inl (conN_mem h)
  · exact .inr (by rw [(labT_mem h).1])
theorem namesT_mem : ∀ {t : Nat} {its : List Item} {q : List Nat × Int}, q ∈ namesT t its → ∃ j, t ≤ j ∧ j < t + its.length ∧ (q.1 = nmC j ∨ q.1 = nmL j)
  | t, [], q, h => by cases h
  | t, it :: r, q, h => by
    rcases List.mem_append.mp (show q ∈ itemN t it ++ namesT (t + 1) r from h) with h | h
    · exact ⟨t, Nat.le_refl _, by simp, itemN_mem h⟩
    · obtain ⟨j, h1, h2, h3⟩ := namesT_mem h
      exact ⟨j, by omega, by simp; omega, h3⟩
def toldK (tl : TL2) : List (Key × V) := tl.map fun q => (.inr (S q.1), .int q.2)
theorem toldK_none {tl : TL2} {n : List Nat} (h : ∀ q ∈ tl, q.1 ≠ n) : valV (toldK tl) (.inr (S n)) = none := by
  induction tl with
  | nil => rfl
  | cons a r ih =>
    show valV ((.inr (S a.1), .int a.2) :: toldK r) _ = none
    rw [valV_neg (fun z => h a (by simp) (S_inj (Sum.inr.inj z)))]
    exact ih fun q hq => h q (List.mem_cons_of_mem _ hq)
theorem toldK_some {tl : TL2} (nd : (tl.map (·.1)).Nodup) {n : List Nat} {v : Int} (h : (n, v) ∈ tl) : valV (toldK tl) (.inr (S n)) = some (.int v) := by
  induction tl with
  | nil => cases h
  | cons a r ih =>
    show valV ((.inr (S a.1), .int a.2) :: toldK r) _ = _
    rcases List.mem_cons.mp h with e | h
    · rw [← e, valV_pos rfl]
    · have hn := (List.nodup_cons.mp nd).1
      rw [valV_neg (fun z => hn (List.mem_map.mpr ⟨_, h, (S_inj (Sum.inr.inj z)).symm⟩))]
      exact ih (List.nodup_cons.mp nd).2 h
theorem toldK_app (a b : TL2) : toldK (a ++ b) = toldK a ++ toldK b := List.map_append
theorem toldK_len (a : TL2) : (toldK a).length = a.length := List.length_map ..
theorem toldK_put {tl : TL2} {n : List Nat} {v : Int} (h : ∀ q ∈ tl, q.1 ≠ n) : putK (toldK tl) (.inr (S n)) (.int v) = toldK (tl ++ [(n, v)]) := by
  rw [putK_new _ (toldK_none h), toldK_app]
  rfl
theorem itemN_len (t : Nat) (it : Item) : (itemN t it).length ≤ 2 := by
  have h1 := conN_len t it.kind
  have h2 := labT_len t it
  unfold itemN
  rw [List.length_append]
  omega
theorem namesT_len : ∀ (t : Nat) (its : List Item), (namesT t its).length ≤ 2 * its.length
  | _, [] => Nat.le_refl _
  | t, it :: r => by
    have h1 := itemN_len t it
    have h2 := namesT_len (t + 1) r
    show (itemN t it ++ namesT (t + 1) r).length ≤ 2 * (r.length + 1)
    rw [List.length_append]
    omega
theorem lab_none (t : Nat) (b : Bool) : decide (labV t b = V.non) = !b := by
  cases b with
  | true => exact decide_eq_false (by intro z; cases z)
  | false => exact decide_eq_true rfl
def ToldI (L D : Addr) (its : List Item) (H0 : Hp) (i : Nat) (σ : L2.St) (H : Hp) : Prop := ∃ y2 y3 : Option V, σ = [some (.ref L), some (.ref D), y2, y3] ∧ Keep [D] H0 H ∧ H D = some (.dK (toldK (namesT 0 (its.take i))))

section
variable {P : Program} {w : World} {K : PySem.W.Frag} {mg : Str → Option Value} {base : Heap}
abbrev N_law_told : List Str := ["_law_items_here", "_law_found", "_law_turn", "_law_item"]
theorem sc_law_told : FnScope N_law_told ["_law_items_here"] (defScope s_law_told) := ⟨rfl, rfl, rfl, by decide +kernel, rfl, by decide +kernel, by decide +kernel⟩
def sp_law_told : Sp := fun vs H Q _ => ∃ (L : Addr) (F : Addr → Prop) (ys : List V) (its : List Item), vs = [.ref L] ∧ H L = some (.lst ys) ∧ ItemsAt F H ys its ∧ ItemsOk its ∧ its.length ≤ 11 ∧ ∀ H' D, Same H H' → H D = none → H' D = some (.dK (toldK (namesT 0 its))) → Q (.ref D) H'
theorem cal_law_told (T : Tx w K mg) : C8.Cal P w K mg base 1 "_law_told" sp_law_told [] := by
  refine cal_of (st := s_law_told) (ps := ["_law_items_here"]) T.d_law_told T.m_law_told sc_law_told (fun _ _ _ _ _ _ us hl => match us, hl with | [_], _ => rfl) (fun vs H Q E h => ?_) (fun cdv A outer s H vs Q E hr h => ?_)
  · obtain ⟨L, F, ys, its, rfl, _⟩ := h
    rfl
  · obtain ⟨L, F, ys, its, rfl, eL, hI, hok, hn, q⟩ := h
    refine ⟨_, (pss_cons (ps_set (i := 1) sc_law_told.nd rfl (Or.inl rfl) pe_dnewK)
      (pss_cons (ps_for PassesOwn.never rfl (pi_enum (by rfl) T.f_enumerate (pa_cons (pv 0) pa_nil)) (pg_tup rfl (pgs_cons (pg_name (i := 2) sc_law_told.nd rfl (Or.inl rfl)) (pgs_cons (pg_name (i := 3) sc_law_told.nd rfl (Or.inl rfl)) pgs_nil)))
        (pss_cons (ps_if (pt_cmpR op_eq (pe_ix ix_list (pv 3) pe_int (fun _ _ => rfl)) pe_int (nomark _))
          (pss_one (ps_dput (by exact hu_of hr) (pv 1) (pe_op op_add_str pe_str (pe_callTy call_str_int (by rfl) T.f_str (by decide +kernel) (pa_cons (pv 2) pa_nil))) (pe_ix ix_list (pv 3) pe_int (fun _ _ => rfl)) rfl))
          pss_nil)
        (pss_one (ps_if (pt_cmpR op_notN (pe_ix ix_list (pv 3) pe_int (fun _ _ => rfl)) pe_non (nomark _))
          (pss_one (ps_dput (by exact hu_of hr) (pv 1) (pe_ix ix_list (pv 3) pe_int (fun _ _ => rfl)) (pe_ix ix_list (pv 3) pe_int (fun _ _ => rfl)) rfl))
          pss_nil))))
      (pss_one (ps_ret (pv 1))))), ?_⟩
    refine fun D nD => ?_
    generalize hH : upd H D _ = H1
    have s1 := new_same hH nD
    have e1 : H1 D = some (.dK []) := new_at hH
    have LD : L ≠ D := ne_of_none eL nD
    have hyl := hI.1
    have hI1 : ItemsAt (fun a => a ≠ D) H1 ys its := hI.imp fun y t it r => by
      obtain ⟨a, vm, e, f, h1, h2⟩ := r
      exact ⟨a, vm, e, ne_of_none h1 nD, s1 _ _ h1, h2.keep NoTup.nil (Keep.of_same s1)⟩
    refine ⟨_, rfl, L, _, rfl, .inl (.inl (s1 _ _ eL)), ?_⟩
    refine for_it (walk_enum (xs := ys)) (ToldI L D its H1) ⟨none, none, rfl, Keep.refl _ _, e1⟩ (fun i σ H2 _ h => ?_) (fun i v σ H2 H3 hi h y => ?_) (fun σ H2 h => ?_)
    · obtain ⟨y2, y3, _, k2, _⟩ := h
      exact .inl (.inl (k2.one LD (s1 _ _ eL)))
    · obtain ⟨y2, y3, rfl, k2, e2⟩ := h
      obtain ⟨tt, v1, v2, rfl, nt, rfl, h1, h2⟩ := y
      obtain rfl := Option.some.inj h1
      have hi2 : i < its.length := by rw [← hyl]; exact hi
      have n1 : NoTup [D] H1 := fun a ha xs e => by
        have : a = D := by simpa using ha
        rw [this, e1] at e
        cases e
      obtain ⟨a, vm, rfl, aD, ha, hm⟩ := (hI1.2 i v2 _ h2 (List.getElem?_eq_getElem hi2)).keep n1 k2 (fun a f => by simpa using f)
      have hit := (hok i _ (List.getElem?_eq_getElem hi2))
      generalize hgit : its[i] = it at ha hm hit
      have s3 : Same H2 (upd H2 tt (.tup [.int (i : Nat), .ref a])) := same_new nt
      refine ⟨tt, _, rfl, .inl (.inl upd_same), rfl, _, _, rfl, _, _, rfl, rfl, ?_⟩
      generalize upd H2 tt (.tup [.int (i : Nat), .ref a]) = H3 at s3
      have ha3 := s3 _ _ ha
      have e3 := s3 _ _ e2
      have hseen : ∀ q ∈ namesT 0 (its.take i), q.1 ≠ nmC i ∧ q.1 ≠ nmL i := fun q hq => by
        obtain ⟨j, _, h5, h6⟩ := namesT_mem hq
        rw [List.length_take, Nat.min_eq_left (by omega), Nat.zero_add] at h5
        rcases h6 with h6 | h6 <;> rw [h6]
        · exact ⟨fun z => by have := (nmK_inj (a := .c) (b := .c) (by omega) (by omega) z).2; omega, fun z => by have := (nmK_inj (a := .c) (b := .l) (by omega) (by omega) z).2; omega⟩
        · exact ⟨fun z => by have := (nmK_inj (a := .l) (b := .c) (by omega) (by omega) z).2; omega, fun z => by have := (nmK_inj (a := .l) (b := .l) (by omega) (by omega) z).2; omega⟩
      have hl2 := namesT_len 0 (its.take i)
      have htl : (its.take i).length ≤ 11 := by rw [List.length_take]; omega
      refine seq_v (fun σ' H4 => σ' = [some (.ref L), some (.ref D), some (.int (i : Nat)), some (.ref a)] ∧ Keep [D] H3 H4 ∧ H4 D = some (.dK (toldK (namesT 0 (its.take i) ++ conN i it.kind)))) (fun σ' H4 hP => ?_) (fun N key => ?_)
      rotate_left
      · refine ⟨_, rfl, a, _, 1, _, rfl, rfl, .inl (.inl ha3), atI_nat (j := 1) rfl, rfl, _, rfl, ?_⟩
        by_cases hs : it.kind.sort = 0
        · refine iteDT (by rw [hs]; rfl) ?_
          obtain ⟨n, hk⟩ : ∃ n, it.kind = .con n := by
            have hkk := hit.1
            cases e : it.kind with
            | con n => exact ⟨n, rfl⟩
            | ins s m r im => rw [e] at hkk hs; have := hkk.1; have : s = 0 := hs; omega
            | _ => rw [e] at hs; cases hs
          rw [hk] at hm key
          obtain rfl : vm = .int (n : Int) := hm
          refine ⟨_, rfl, a, _, 2, _, rfl, rfl, .inl (.inl ha3), atI_nat (j := 2) rfl, _, rfl, _, rfl, _, rfl, log2_few (by omega), _, _, rfl, rfl, ?_, ?_⟩
          · have := numT_short (k := (i : Int)) (by omega) (by omega)
            have h1 : ("c" : Str).length = 1 := by decide +kernel
            exact sz (by omega)
          · rw [str_c, pre_text]
            refine ⟨D, _, rfl, DPut.k (k := Sum.inr (S (nmC i))) e3 (szl (by rw [toldK_len]; omega)), ?_⟩
            rw [toldK_put (fun q hq => (hseen q hq).1)]
            exact key _ _ ⟨rfl, Keep.put (by simp), upd_same⟩
        · refine iteDF (fun z => hs (by have := V.int.inj z; omega)) (key _ _ ⟨rfl, Keep.refl _ _, ?_⟩)
          cases e : it.kind with
          | con n => rw [e] at hs; exact absurd rfl hs
          | _ =>
            show H3 D = some (.dK (toldK (namesT 0 (its.take i) ++ [])))
            rw [List.append_nil]
            exact e3
      · obtain ⟨rfl, k4, e4⟩ := hP
        have ha4 := k4.one aD ha3
        refine ⟨_, rfl, a, _, 0, _, rfl, rfl, .inl (.inl ha4), atI_nat (j := 0) rfl, rfl, _, rfl, ?_⟩
        rw [lab_none, Bool.not_not]
        have fin : ∀ H5, Keep [D] H4 H5 → H5 D = some (.dK (toldK (namesT 0 (its.take i) ++ itemN i it))) → ToldI L D its H1 (i + 1) [some (.ref L), some (.ref D), some (.int (i : Nat)), some (.ref a)] H5 := fun H5 k5 e5 => by
          refine ⟨_, _, rfl, k2.trans ((Keep.of_same s3).trans (k4.trans k5)), ?_⟩
          rw [namesT_take its i hi2, hgit]
          exact e5
        cases hb : it.lab with
        | false =>
          refine iteF (fin H4 (Keep.refl _ _) ?_)
          unfold itemN labT
          rw [hb, if_neg (by decide), List.append_nil]
          exact e4
        | true =>
          rw [hb] at ha4
          refine iteT ⟨_, rfl, a, _, 3, _, rfl, rfl, .inl (.inl ha4), atI_nat (j := 3) rfl, _, rfl, _, rfl, a, _, 0, _, rfl, rfl, .inl (.inl ha4), atI_nat (j := 0) rfl, ?_⟩
          have hlen1 : (namesT 0 (its.take i) ++ conN i it.kind).length ≤ 23 := by
            rw [List.length_append]
            have := conN_len i it.kind
            omega
          refine ⟨D, _, rfl, DPut.k (k := Sum.inr (S (nmL i))) e4 (szl (by rw [toldK_len]; omega)), ?_⟩
          rw [toldK_put (fun q hq => ?_)]
          · refine fin _ (Keep.put (by simp)) ?_
            rw [upd_same]
            unfold itemN labT
            rw [hb, if_pos rfl, List.append_assoc]
          · rcases List.mem_append.mp hq with h | h
            · exact (hseen q h).2
            · rw [conN_mem h]
              exact fun z => by cases (nmK_inj (a := .c) (b := .l) (by omega) (by omega) z).1
    · obtain ⟨y2, y3, rfl, k2, e2⟩ := h
      rw [hyl, List.take_length] at e2
      exact ⟨_, rfl, q H2 D (fun b o e => k2.one (ne_of_none e nD) (s1 _ _ e)) nD e2⟩
end
end K21
/-! ## WY -/
set_option Elab.async false
set_option linter.all false
set_option maxRecDepth 100000
set_option maxHeartbeats 4000000
namespace K21
open PySem PySem.Spec PyProof.Rows L2 C8
local macro_rules | `(tactic| walk_at "adv") => `(tactic| repeat (first | refine ⟨_, rfl, ?_⟩ | refine ⟨rfl, ?_⟩ | refine ⟨_, _, rfl, rfl, ?_⟩ | refine iteT ?_ | refine iteF ?_))

theorem tt_w2 {tt : TT} {σ : L2.St} {H : Hp} {Q : Bool → Hp → Prop} (P1 P2 : Hp → Prop) (k1 : ∀ H3, P1 H3 → Q true H3) (k2 : ∀ H3, P2 H3 → Q false H3) (h : ∀ Q' : Bool → Hp → Prop, (∀ H3, P1 H3 → Q' true H3) → (∀ H3, P2 H3 → Q' false H3) → tt σ H Q') : tt σ H Q := h Q k1 k2
theorem str_pl : ("+" : Str) = S [43] := by decide +kernel
theorem str_mi : ("-" : Str) = S [45] := by decide +kernel
theorem sign_text (nm : List Nat) (c : Nat) (k : Int) : S nm ++ S [c] ++ Str.ofString (toString k) = S (nm ++ c :: numT k) := by
  unfold numT
  rw [← S_cl (Str.ofString (toString k)), S_cat, S_cat, List.append_assoc]
  rfl
def hexd (k : Nat) : Nat := (cl "0123456789abcdef").getD k 0
def hexT (n : Nat) : List Nat := [48, 120, hexd (n / 16 % 16), hexd (n % 16)]
def NumT (n : Nat) (s : List Nat) : Prop := s = numT (n : Int) ∨ s = 48 :: 48 :: numT (n : Int) ∨ s = hexT n
def numOk2 (n : Nat) (s : List Nat) : Bool := goodW s && (decide (numM s = some (n : Int)) && (decide (valM s = some (none, (n : Int))) && decide (s.getLast? ≠ some 58)))
theorem num_all : ∀ n : Fin 256, (numOk2 n.val (numT (n.val : Int)) && (numOk2 n.val (48 :: 48 :: numT (n.val : Int)) && numOk2 n.val (hexT n.val))) = true := by decide +kernel
theorem NumT.ok {n : Nat} {s : List Nat} (hn : n < 256) (h : NumT n s) : goodW s = true ∧ numM s = some (n : Int) ∧ valM s = some (none, (n : Int)) ∧ s.getLast? ≠ some 58 := by
  obtain ⟨g1, g⟩ := Bool.and_eq_true_iff.mp (num_all ⟨n, hn⟩)
  obtain ⟨g2, g3⟩ := Bool.and_eq_true_iff.mp g
  have go : numOk2 n s = true := by
    rcases h with rfl | rfl | rfl
    · exact g1
    · exact g2
    · exact g3
  unfold numOk2 at go
  obtain ⟨f1, go⟩ := Bool.and_eq_true_iff.mp go
  obtain ⟨f2, go⟩ := Bool.and_eq_true_iff.mp go
  obtain ⟨f3, f4⟩ := Bool.and_eq_true_iff.mp go
  exact ⟨f1, of_decide_eq_true f2, of_decide_eq_true f3, of_decide_eq_true f4⟩
theorem str_hx : ("0x" : Str) = S [48, 120] := by decide +kernel
theorem str_00 : ("00" : Str) = S [48, 48] := by decide +kernel
theorem hex_at {k : Nat} (h : k < 16) : atI (("0123456789abcdef" : Str).cps.toList) (k : Int) = some (hexd k) := by
  refine atI_nat ?_
  have hl : (cl "0123456789abcdef").length = 16 := by decide +kernel
  show (cl "0123456789abcdef")[k]? = some (hexd k)
  unfold hexd
  rw [List.getD_eq_getElem?_getD, List.getElem?_eq_getElem (by omega)]
  rfl
theorem hexs_len : ("0123456789abcdef" : Str).length ≤ 1000 := by decide +kernel
/-- a value said, with its worth -/
def ValT (tl : TL2) (s : List Nat) (k : Int) : Prop := (∃ n : Nat, n < 256 ∧ NumT n s ∧ k = (n : Int)) ∨ ∃ nm v, (nm, v) ∈ tl ∧ ((s = nm ∧ k = v) ∨ ∃ m : Nat, 1 ≤ m ∧ m ≤ 3 ∧ ((s = nm ++ 43 :: numT (m : Int) ∧ k = v + m) ∨ (s = nm ++ 45 :: numT (m : Int) ∧ k = v - m)))

section
variable {P : Program} {w : World} {K : PySem.W.Frag} {mg : Str → Option Value} {base : Heap}
abbrev N_law_number : List Str := ["_law_pot_here", "_law_number_here", "_law_way"]
theorem sc_law_number : FnScope N_law_number ["_law_pot_here", "_law_number_here"] (defScope s_law_number) := ⟨rfl, rfl, rfl, by decide +kernel, rfl, by decide +kernel, by decide +kernel⟩
def sp_law_number : Sp := fun vs H Q _ => ∃ (p : Addr) (n : Nat), vs = [.ref p, .int (n : Int)] ∧ PotOk H p ∧ n < 256 ∧ ∀ H' s, Keep [p] H H' → PotOk H' p → NumT n s → Q (.str (S s)) H'
theorem cal_law_number (T : Tx w K mg) : C8.Cal P w K mg base 2 "_law_number" sp_law_number [] := by
  have c_law_draw := cal_law_draw (P := P) (base := base) T
  refine cal_of (st := s_law_number) (ps := ["_law_pot_here", "_law_number_here"]) T.d_law_number T.m_law_number sc_law_number (fun _ _ _ _ _ _ us hl => match us, hl with | [_, _], _ => rfl) (fun vs H Q E h => ?_) (fun cdv A outer s H vs Q E hr h => ?_)
  · obtain ⟨p, n, rfl, _⟩ := h
    rfl
  · obtain ⟨p, n, rfl, hp, hn, q⟩ := h
    refine ⟨_, (pss_cons (ps_set (i := 2) sc_law_number.nd rfl (Or.inl rfl) (pe_c c_law_draw hr (by decide) (by rfl) (pa_cons (pv 0) (pa_cons pe_int pa_nil))))
      (pss_cons (ps_if (PW.pt (pw_and (pt_cmpR op_eq (pv 2) pe_int (nomark _)) (pw_and1 (pt_cmpR op_ge (pv 1) pe_int (nomark _)))))
        (pss_one (ps_ret (pe_op op_add_str (pe_op op_add_str pe_str (pe_ix ix_str pe_str (pe_op op_mod (pe_op op_fdiv (pv 1) pe_int) pe_int) (fun _ _ => rfl))) (pe_ix ix_str pe_str (pe_op op_mod (pv 1) pe_int) (fun _ _ => rfl)))))
        pss_nil)
      (pss_cons (ps_if (PW.pt (pw_and (pt_cmpR op_eq (pv 2) pe_int (nomark _)) (pw_and1 (pt_chain op_le op_lt pe_int (pv 1) pe_int))))
        (pss_one (ps_ret (pe_op op_add_str pe_str (pe_callTy call_str_int (by rfl) T.f_str (by decide +kernel) (pa_cons (pv 1) pa_nil)))))
        pss_nil)
      (pss_one (ps_ret (pe_callTy call_str_int (by rfl) T.f_str (by decide +kernel) (pa_cons (pv 1) pa_nil))))))), ?_⟩
    refine ⟨_, rfl, p, 4, rfl, hp, by decide, by decide, fun d H1 hd k1 hp1 => ?_⟩
    refine ⟨_, rfl, rfl, _, rfl, ?_⟩
    by_cases c0 : d = 0
    · refine iteDT (by rw [c0]; rfl) ⟨_, rfl, _, _, rfl, rfl, _, rfl, iteDT (by omega) ?_⟩
      have e1 : (n : Int) / 16 % 16 = ((n / 16 % 16 : Nat) : Int) := by omega
      have e2 : (n : Int) % 16 = ((n % 16 : Nat) : Int) := by omega
      refine ⟨_, rfl, _, _, rfl, rfl, ⟨by decide, by decide⟩, _, _, rfl, rfl, by show (0 : Int) < 16; decide, _, _, hexd (n / 16 % 16), rfl, rfl, sz (by have := hexs_len; omega), by rw [e1]; exact hex_at (by omega), ?_⟩
      have l2 : ("0x" : Str).length = 2 := by decide +kernel
      refine ⟨_, _, rfl, rfl, sz (by rw [l2]; show 2 + 1 ≤ 1000000; decide), _, rfl, _, _, rfl, rfl, by show (0 : Int) < 16; decide, _, _, hexd (n % 16), rfl, rfl, sz (by have := hexs_len; omega), by rw [e2]; exact hex_at (by omega), ?_⟩
      have e3 : ("0x" : Str) ++ ⟨#[hexd (n / 16 % 16)]⟩ = S [48, 120, hexd (n / 16 % 16)] := by
        rw [str_hx]
        exact S_cat [48, 120] [hexd (n / 16 % 16)]
      rw [e3]
      refine ⟨_, _, rfl, rfl, sz (by rw [S_len]; show 3 + 1 ≤ 1000000; decide), ?_⟩
      have e4 : S [48, 120, hexd (n / 16 % 16)] ++ (⟨#[hexd (n % 16)]⟩ : Str) = S (hexT n) := S_cat [48, 120, hexd (n / 16 % 16)] [hexd (n % 16)]
      rw [e4]
      exact q _ _ k1 hp1 (.inr (.inr rfl))
    · refine iteDF (fun z => c0 (by have := V.int.inj z; omega)) (iteF ?_)
      delta tNext
      dsimp only
      refine ⟨_, rfl, rfl, _, rfl, ?_⟩
      have ht := numT_short (k := (n : Int)) (by omega) (by omega)
      by_cases c1 : d = 1
      · refine iteDT (by rw [c1]; rfl) ⟨_, rfl, _, _, rfl, rfl, _, rfl, iteDT (by omega) ⟨_, _, rfl, rfl, _, rfl, iteDT (by omega) ?_⟩⟩
        refine ⟨_, rfl, _, rfl, log2_few (by omega), _, _, rfl, rfl, ?_, ?_⟩
        · have h1 : ("00" : Str).length = 2 := by decide +kernel
          exact sz (by omega)
        · have e : S [48, 48] ++ Str.ofString (toString (n : Int)) = S (48 :: 48 :: numT (n : Int)) := by
            unfold numT
            rw [← S_cl (Str.ofString (toString (n : Int))), S_cat]
            rfl
          rw [str_00, e]
          exact q _ _ k1 hp1 (.inr (.inl rfl))
      · refine iteDF (fun z => c1 (by have := V.int.inj z; omega)) (iteF ?_)
        refine ⟨_, rfl, _, rfl, log2_few (by omega), ?_⟩
        have := q _ _ k1 hp1 (.inl rfl)
        unfold numT at this
        rw [S_cl] at this
        exact this
abbrev N_law_value : List Str := ["_law_pot_here", "_law_told_here", "_law_number_here", "_law_name", "_law_more"]
theorem sc_law_value : FnScope N_law_value ["_law_pot_here", "_law_told_here"] (defScope s_law_value) := ⟨rfl, rfl, rfl, by decide +kernel, rfl, by decide +kernel, by decide +kernel⟩
def sp_law_value : Sp := fun vs H Q _ => ∃ (p D : Addr) (tl : TL2), vs = [.ref p, .ref D] ∧ PotOk H p ∧ H D = some (.dK (toldK tl)) ∧ tl.length ≤ 60 ∧ (tl.map (·.1)).Nodup ∧ (∀ q ∈ tl, q.1.length ≤ 20) ∧ ∀ H' t s k, Keep [p] H H' → PotOk H' p → H t = none → H' t = some (.tup [.str (S s), .int k]) → ValT tl s k → Q (.ref t) H'
theorem cal_law_value (T : Tx w K mg) : C8.Cal P w K mg base 3 "_law_value" sp_law_value [] := by
  have c_law_draw := cal_law_draw (P := P) (base := base) T
  have c_law_number := cal_law_number (P := P) (base := base) T
  refine cal_of (st := s_law_value) (ps := ["_law_pot_here", "_law_told_here"]) T.d_law_value T.m_law_value sc_law_value (fun _ _ _ _ _ _ us hl => match us, hl with | [_, _], _ => rfl) (fun vs H Q E h => ?_) (fun cdv A outer s H vs Q E hr h => ?_)
  · obtain ⟨p, D, tl, rfl, _⟩ := h
    rfl
  · obtain ⟨p, D, tl, rfl, hp, eD, hl, hnd, hnl, q⟩ := h
    refine ⟨_, (pss_cons (ps_if (PW.pt (pw_or (pt_cmpR (op_eq_dictN (Nat.lt_of_succ_lt (hu_of hr))) (pv 1) pe_dnewK (nomark _)) (pw_or1 (pt_cmpR op_eq (pe_c c_law_draw hr (by decide) (by rfl) (pa_cons (pv 0) (pa_cons pe_int pa_nil))) pe_int (nomark _)))))
        (pss_cons (ps_set (i := 2) sc_law_value.nd rfl (Or.inl rfl) (pe_c c_law_draw hr (by decide) (by rfl) (pa_cons (pv 0) (pa_cons pe_int pa_nil))))
        (pss_one (ps_ret (pe_tup (pa_cons (pe_c c_law_number hr (by decide) (by rfl) (pa_cons (pv 0) (pa_cons (pv 2) pa_nil))) (pa_cons (pv 2) pa_nil))))))
        pss_nil)
      (pss_cons (ps_set (i := 3) sc_law_value.nd rfl (Or.inl rfl) (pe_ix ix_list (pe_callB (call_sortedD rfl) (by rfl) T.f_sorted (by decide +kernel) (pa_cons (pv 1) pa_nil)) (pe_c c_law_draw hr (by decide) (by rfl) (pa_cons (pv 0) (pa_cons (pe_callB call_lenD (by rfl) T.f_len (by decide +kernel) (pa_cons (pv 1) pa_nil)) pa_nil))) (fun _ _ => rfl)))
      (pss_cons (ps_set (i := 4) sc_law_value.nd rfl (Or.inl rfl) (pe_op op_sub (pe_c c_law_draw hr (by decide) (by rfl) (pa_cons (pv 0) (pa_cons pe_int pa_nil))) pe_int))
      (pss_cons (ps_if (pt_cmpR op_eq (pv 4) pe_int (nomark _))
        (pss_one (ps_ret (pe_tup (pa_cons (pv 3) (pa_cons (pe_dget (by exact hu_of hr) (pv 1) (pv 3) (fun _ _ => rfl)) pa_nil)))))
        pss_nil)
      (pss_one (ps_ret (pe_tup (pa_cons (pe_op op_add_str (pe_op op_add_str (pv 3) (pe_ifExp (pt_cmpR op_gt (pv 4) pe_int (nomark _)) pe_str pe_str)) (pe_callTy call_str_int (by rfl) T.f_str (by decide +kernel) (pa_cons (pe_callB call_abs (by rfl) T.f_abs (by decide +kernel) (pa_cons (pv 4) pa_nil)) pa_nil))) (pa_cons (pe_op op_add (pe_dget (by exact hu_of hr) (pv 1) (pv 3) (fun _ _ => rfl)) (pv 4)) pa_nil))))))))), ?_⟩
    have Dp : D ≠ p := fun z => by
      obtain ⟨_, _, e, _⟩ := hp
      rw [z, e] at eD
      cases eD
    have fin : ∀ (H3 : Hp) (s : List Nat) (k : Int), Keep [p] H H3 → PotOk H3 p → ValT tl s k → ∀ t, H3 t = none → Q (.ref t) (upd H3 t (.tup [.str (S s), .int k])) := fun H3 s k k3 hp3 hv t nt => by
      generalize hH : upd H3 t _ = H4
      have s4 := new_same hH nt
      have tp : t ∉ [p] := fun m => by
        have e : t = p := by simpa using m
        obtain ⟨_, _, e2, _⟩ := hp3
        rw [e, e2] at nt
        cases nt
      exact q H4 t s k (k3.trans (Keep.of_same s4)) (hp3.same s4) (fresh_keep k3 tp nt) (new_at hH) hv
    refine s_of ?_
    refine i_of ?_
    refine tt_w2 (tt := tOr _ _) (fun H3 => Keep [p] H H3 ∧ PotOk H3 p) (fun H3 => Keep [p] H H3 ∧ PotOk H3 p ∧ tl ≠ []) (fun H3 hP => ?_) (fun H3 hP => ?_) (fun Q' key1 key2 => ?_)
    rotate_right
    · refine ⟨_, rfl, fun u nu => ?_⟩
      generalize hH : upd _ u _ = H1
      have s1 := new_same hH nu
      have e1 : H1 u = some (.dK []) := new_at hH
      refine ⟨D, u, toldK tl, [], rfl, rfl, s1 _ _ eD, e1, fun z => ⟨List.eq_nil_of_length_eq_zero z, rfl⟩, _, rfl, ?_⟩
      by_cases h0 : tl = []
      · refine iteDT (by rw [h0]; rfl) (key1 _ ⟨Keep.of_same s1, hp.same s1⟩)
      · refine iteDF (fun z => h0 (List.eq_nil_of_length_eq_zero (by rw [← toldK_len]; exact z))) ?_
        refine ⟨_, rfl, p, 2, rfl, hp.same s1, by decide, by decide, fun d H2 hd k2 hp2 => ⟨rfl, _, rfl, ?_⟩⟩
        by_cases hd0 : d = 0
        · rw [show decide (V.int (d : Int) = V.int 0) = true from decide_eq_true (by rw [hd0]; rfl)]
          exact key1 _ ⟨(Keep.of_same s1).trans k2, hp2⟩
        · rw [show decide (V.int (d : Int) = V.int 0) = false from decide_eq_false (fun z => hd0 (by have := V.int.inj z; omega))]
          exact key2 _ ⟨(Keep.of_same s1).trans k2, hp2, h0⟩
    · obtain ⟨k3, hp3⟩ := hP
      refine iteT ⟨_, rfl, p, 256, rfl, hp3, by decide, by decide, fun d H4 hd k4 hp4 => ?_⟩
      refine ⟨_, rfl, _, rfl, p, d, rfl, hp4, hd, fun H5 sx k5 hp5 hs => ?_⟩
      refine ⟨_, rfl, sz (by show 2 ≤ 1000000; decide), ?_⟩
      exact fin H5 sx _ (k3.trans (k4.trans k5)) hp5 (.inl ⟨d, hd, hs, rfl⟩)
    · obtain ⟨k3, hp3, hne⟩ := hP
      have eD3 := k3.one Dp eD
      refine iteF ?_
      refine ⟨_, rfl, D, _, tl.map fun q => S q.1, rfl, .inl eD3, by unfold toldK; rw [List.map_map, List.map_map]; rfl, by rw [List.length_map]; omega, fun ys L hperm _ nL => ?_⟩
      generalize hH : upd _ L _ = H4
      have s4 := new_same hH nL
      have e4 : H4 L = some (.lst (ys.map V.str)) := new_at hH
      have hyl : ys.length = tl.length := by rw [hperm.length_eq, List.length_map]
      have htl : 0 < tl.length := List.length_pos_iff.mpr hne
      have Lp : L ≠ p := fun z => by
        obtain ⟨_, _, e, _⟩ := hp3
        rw [z, e] at nL
        cases nL
      refine ⟨_, rfl, _, rfl, D, _, rfl, s4 _ _ eD3, p, (toldK tl).length, rfl, hp3.same s4, by rw [toldK_len]; exact htl, by rw [toldK_len]; omega, fun d H5 hd k5 hp5 => ?_⟩
      rw [toldK_len] at hd
      have e5 := k5.one Lp e4
      have hdy : d < ys.length := by omega
      obtain ⟨⟨nm, v⟩, hmem, hnm⟩ := List.mem_map.mp (hperm.mem_iff.mp (List.getElem_mem hdy))
      have hnm' : S nm = ys[d] := hnm
      refine ⟨L, _, _, .str (S nm), rfl, rfl, .inl (.inl e5), atI_nat (by rw [List.getElem?_map, List.getElem?_eq_getElem hdy, ← hnm']; rfl), ?_⟩
      have kA := k3.trans ((Keep.of_same s4).trans k5)
      have hval := toldK_some hnd hmem
      refine ⟨_, rfl, p, 7, rfl, hp5, by decide, by decide, fun e H6 he k6 hp6 => ⟨_, _, rfl, rfl, ?_⟩⟩
      have kB := kA.trans k6
      have eD6 := kB.one Dp eD
      have hget : DGet H6 D (.str (S nm)) (some (.int v)) := by
        have := DGet.k (k := Sum.inr (S nm)) eD6
        rw [hval] at this
        exact this
      refine ⟨_, rfl, rfl, _, rfl, ?_⟩
      by_cases h3 : e = 3
      · refine iteDT (by rw [h3]; rfl) ⟨_, rfl, _, rfl, _, rfl, D, _, rfl, hget, sz (by show 2 ≤ 1000000; decide), ?_⟩
        exact fin H6 nm v kB hp6 (.inr ⟨nm, v, hmem, .inl ⟨rfl, rfl⟩⟩)
      · refine iteDF (fun z => h3 (by have := V.int.inj z; omega)) ?_
        have hn20 := hnl _ hmem
        dsimp only at hn20
        have hl1 : ("+" : Str).length = 1 ∧ ("-" : Str).length = 1 := by decide +kernel
        refine ⟨_, rfl, _, rfl, _, _, rfl, rfl, _, rfl, ?_⟩
        by_cases hpos : 3 < e
        · refine iteDT (by omega) ⟨_, _, rfl, rfl, sz (by rw [S_len]; omega), _, rfl, _, rfl, ?_⟩
          have e1 : (if (e : Int) - 3 < 0 then -((e : Int) - 3) else (e : Int) - 3) = ((e - 3 : Nat) : Int) := by
            rw [if_neg (by omega)]
            omega
          rw [e1]
          have hsh := numT_short (k := ((e - 3 : Nat) : Int)) (by omega) (by omega)
          refine ⟨_, rfl, log2_few (by omega), _, _, rfl, rfl, ?_, ?_⟩
          · rw [str_pl, S_cat, S_len, List.length_append]
            exact sz (by show nm.length + 1 + _ ≤ _; omega)
          · rw [str_pl, sign_text]
            refine ⟨_, rfl, _, rfl, D, _, rfl, hget, _, rfl, _, _, rfl, rfl, sz (by show 2 ≤ 1000000; decide), ?_⟩
            exact fin H6 _ _ kB hp6 (.inr ⟨nm, v, hmem, .inr ⟨e - 3, by omega, by omega, .inl ⟨rfl, by omega⟩⟩⟩)
        · refine iteDF (by omega) ⟨_, _, rfl, rfl, sz (by rw [S_len]; omega), _, rfl, _, rfl, ?_⟩
          have e1 : (if (e : Int) - 3 < 0 then -((e : Int) - 3) else (e : Int) - 3) = ((3 - e : Nat) : Int) := by
            rw [if_pos (by omega)]
            omega
          rw [e1]
          have hsh := numT_short (k := ((3 - e : Nat) : Int)) (by omega) (by omega)
          refine ⟨_, rfl, log2_few (by omega), _, _, rfl, rfl, ?_, ?_⟩
          · rw [str_mi, S_cat, S_len, List.length_append]
            exact sz (by show nm.length + 1 + _ ≤ _; omega)
          · rw [str_mi, sign_text]
            refine ⟨_, rfl, _, rfl, D, _, rfl, hget, _, rfl, _, _, rfl, rfl, sz (by show 2 ≤ 1000000; decide), ?_⟩
            exact fin H6 _ _ kB hp6 (.inr ⟨nm, v, hmem, .inr ⟨3 - e, by omega, by omega, .inr ⟨rfl, by omega⟩⟩⟩)
end
end K21
/-! ## K21Line -/
set_option Elab.async false
set_option linter.all false
set_option maxRecDepth 100000
set_option maxHeartbeats 4000000
namespace K21
open PySem PySem.Spec PyProof.Rows L2
/-! a line of the law's text: its words, the words laid -/
theorem lc_filt {J : It} {n : Nat} {G : Hp → Prop} {Y : Nat → Hp → V → Hp → Prop} (w : Walk J n G Y) {g : TG} {tt : TT} {te : TE} {vs : List Nat} {σ : L2.St} {H1 : Hp} {D : Addr} {Qd : Hp → Prop} (hD : H1 D = none) (hn : n ≤ 1000000)
    (R : V → Prop) (hG : ∀ H, Same H1 H → G H)
    (hs : ∀ i x H H' (C : V → Hp → Prop) (Cf : Hp → Prop), i < n → Same H1 H → Y i H x H' → (∀ y H4, Same H H4 → R y → C y H4) → (∀ H4, Same H H4 → Cf H4) →
      g x (wipe σ vs) H' fun σ2 H2 => wipe σ2 vs = wipe σ vs ∧ tt σ2 H2 fun b H3 => if b = true then te σ2 H3 C else Cf H3)
    (hd : ∀ H ys, Same H1 H → ys.length ≤ n → H D = some (.lst ys) → (∀ y ∈ ys, R y) → Qd H) :
    ∃ W : Nat → Nat → Hp → Prop, (∃ m, W 0 m (upd H1 D (.lst []))) ∧ ∀ i m H, W i m H →
      (J.stop i H ∧ Qd H) ∨ (J.go i H ∧ ∃ Nx : Hp → Prop, (∀ H', Nx H' → ∃ m', m' < m ∧ W (i + 1) m' H') ∧ ∀ x H', J.yld i H x H' → g x (wipe σ vs) H' fun σ2 H2 => wipe σ2 vs = wipe σ vs ∧ tt σ2 H2 fun b H3 =>
        if b = true then te σ2 H3 fun y H4 => ∃ acc, H4 D = some (.lst acc) ∧ acc.length < sizeLine ∧ Nx (upd H4 D (.lst (acc ++ [y]))) else Nx H3) := by
  refine lc_it w (fun i H => Same H1 H ∧ ∃ ys, ys.length ≤ i ∧ H D = some (.lst ys) ∧ ∀ y ∈ ys, R y) ⟨same_new hD, [], Nat.le_refl _, upd_same, fun y h => by simp at h⟩ (fun i H _ h => hG H h.1) (fun i x H H' hi h y => ?_) (fun H h => ?_)
  · obtain ⟨s1, ys, hl, e, hr⟩ := h
    refine hs i x H H' _ _ hi s1 y (fun y H4 s2 r => ?_) (fun H4 s2 => ⟨s1.trans s2, ys, by omega, s2 _ _ e, hr⟩)
    have k1 : Keep [D] H (upd H4 D (.lst (ys ++ [y]))) := (Keep.of_same s2).trans (Keep.put (by simp))
    refine ⟨ys, s2 _ _ e, szl (by omega), fun b o eb => ?_, ys ++ [y], by simp; omega, upd_same, fun z hz => ?_⟩
    · exact k1 b o (by simp [ne_of_none eb hD]) (s1 _ _ eb)
    · rcases List.mem_append.mp hz with h | h
      · exact hr z h
      · rw [List.mem_singleton] at h
        rw [h]
        exact r
  · obtain ⟨s1, ys, hl, e, hr⟩ := h
    exact hd H ys s1 hl e hr
theorem strs_of {R : List Nat → Prop} : ∀ {ys : List V}, (∀ y ∈ ys, ∃ nm, y = V.str (S nm) ∧ R nm) → ∃ nms : List (List Nat), ys = nms.map (fun x => V.str (S x)) ∧ ∀ nm ∈ nms, R nm
  | [], _ => ⟨[], rfl, fun nm h => by cases h⟩
  | y :: ys, h => by
    obtain ⟨nms, e, hr⟩ := strs_of (ys := ys) fun z hz => h z (List.mem_cons_of_mem _ hz)
    obtain ⟨nm, e2, r⟩ := h y List.mem_cons_self
    refine ⟨nm :: nms, by rw [e, e2]; rfl, fun z hz => ?_⟩
    rcases List.mem_cons.mp hz with q | q
    · rw [q]; exact r
    · exact hr z q
theorem goodW_asc {w : List Nat} (h : goodW w = true) : Asc w := fun c hc => by
  have h1 := (List.all_eq_true.mp (Bool.and_eq_true_iff.mp (Bool.and_eq_true_iff.mp h).2).2) c hc
  have h2 := of_decide_eq_true (Bool.and_eq_true_iff.mp (Bool.and_eq_true_iff.mp h1).2).1
  omega
theorem InsOk.word {n : Str} {regs : List Nat} {imm : List Int} (h : InsOk n regs imm) : ∃ w, InsW n regs imm w := by
  obtain ⟨f, a, b, c, d, hI⟩ := h
  obtain ⟨i, _, hi⟩ := op_ix n (List.mem_map.mpr ⟨_, hI.1, rfl⟩)
  exact ⟨_, f, a, b, c, d, i, hI, hi, rfl⟩
/-- what is told: constants and labels -/
def TlOk (tl : TL2) : Prop := (tl.map (·.1)).Nodup ∧ ∀ q ∈ tl, ∃ k j, j < 16 ∧ q.1 = nmK k j ∧ (k = .c → 3 ≤ q.2 ∧ q.2 ≤ 15) ∧ (k ≠ .c → 0 ≤ q.2 ∧ q.2 ≤ 200)
theorem nm_all : ∀ j : Fin 16, (goodW (nmC j.val) && (goodW (nmL j.val) && goodW (nmM j.val))) = true := by decide +kernel
theorem nmK_good {k : NK} {j : Nat} (h : j < 16) : goodW (nmK k j) = true := by
  obtain ⟨g1, g⟩ := Bool.and_eq_true_iff.mp (nm_all ⟨j, h⟩)
  obtain ⟨g2, g3⟩ := Bool.and_eq_true_iff.mp g
  cases k
  · exact g1
  · exact g2
  · exact g3
theorem TlOk.good {tl : TL2} (h : TlOk tl) : ∀ q ∈ tl, goodW q.1 = true := fun q hq => by
  obtain ⟨k, j, hj, e, _⟩ := h.2 q hq
  rw [e]
  exact nmK_good hj
def ways4 : List Str := ["addi", "ld", "st", "jr"]
theorem way_far : ∀ w ∈ branches, ((w, ("far" : Str)) ∈ opsT) := by decide +kernel
theorem way_near : ∀ w ∈ ways4, ((w, ("near" : Str)) ∈ opsT) := by decide +kernel
inductive LineT (tl : TL2) (t : Nat) (pl : Nat) : IK → List (List Nat) → List Int → Prop where
  | con {n : Nat} {s : List Nat} : NumT n s → LineT tl t pl (.con n) [nmC t, [61], s] []
  | at_ {s : List Nat} : NumT pl s → LineT tl t pl .at_ [cl ".at", s] []
  | space {n : Nat} : LineT tl t pl (.space n) [cl ".space", numT (n : Int)] (List.replicate n 0)
  | text {s : List Nat} : LineT tl t pl (.text s) [cl ".text", 34 :: (s ++ [34])] (s.map fun c : Nat => (c : Int))
  | word {n : Nat} {ss : List (List Nat)} {ks : List Int} : ss.length = n → Paired (ValT tl) ss ks → LineT tl t pl (.word n) (cl ".word" :: ss) (ks.map fun k => k % 65536)
  | set {d : Nat} {s : List Nat} {k w1 w2 : Int} : d < 8 → ValT tl s k → InsW "lim" [d] [k % 65536 % 256] w1 → InsW "lhi" [d] [k % 65536 / 256] w2 → LineT tl t pl .set [cl "set", regW d, s] [w1, w2]
  | ins {s : Nat} {n : Str} {regs : List Nat} {imm : List Int} {w : Int} : InsW n regs imm w → LineT tl t pl (.ins s n regs imm) (cl n :: saidW regs imm) [w]
  | near {way : Str} {d j : Nat} {v w : Int} : way ∈ branches → d < 8 → j < 16 → (nmL j, v) ∈ tl → InsW way [d] [v - (pl : Int)] w → LineT tl t pl .six [cl way, regW d, nmL j] [w]
  | smallB {way : Str} {d j : Nat} {v w : Int} : way ∈ branches → d < 8 → j < 16 → (nmC j, v) ∈ tl → InsW way [d] [v] w → LineT tl t pl .seven [cl way, regW d, nmC j] [w]
  | small {way : Str} {d j : Nat} {v w : Int} : way ∈ ways4 → d < 8 → j < 16 → (nmC j, v) ∈ tl → InsW way [d, 7 - d] [v] w → LineT tl t pl .seven [cl way, regW d, regW (7 - d), nmC j] [w]
  | nop {k : IK} {w : Int} : k = .six ∨ k = .seven → InsW "nop" [] [] w → LineT tl t pl k [cl "nop"] [w]
/-- the two lists of a line, new -/
def LineV (H0 H : Hp) (r : Addr) (ws : List (List Nat)) (ml : List Int) : Prop := ∃ a b, H r = some (.tup [.ref a, .ref b]) ∧ H0 a = none ∧ H0 b = none ∧ H a = some (.lst (ws.map strV)) ∧ H b = some (.lst (ml.map V.int))
end K21
/-! ## WZ -/
set_option Elab.async false
set_option linter.all false
set_option maxRecDepth 100000
set_option maxHeartbeats 4000000
namespace K21
open PySem PySem.Spec PyProof.Rows L2 C8
local macro_rules | `(tactic| walk_at "adv") => `(tactic| repeat (first | refine ⟨_, rfl, ?_⟩ | refine ⟨rfl, ?_⟩ | refine ⟨_, _, rfl, rfl, ?_⟩ | refine iteT ?_ | refine iteF ?_))

theorem sorted_told (tl : TL2) : (toldK tl).map (·.1) = (tl.map fun q => S q.1).map Sum.inr := by
  unfold toldK
  rw [List.map_map, List.map_map]
  rfl
theorem told_at {tl : TL2} {ys : List Str} (hp : ys.Perm (tl.map fun q => S q.1)) {i : Nat} {x : V} (h : (ys.map V.str)[i]? = some x) : ∃ q ∈ tl, x = .str (S q.1) := by
  rw [List.getElem?_map] at h
  obtain ⟨y, hy, rfl⟩ := Option.map_eq_some_iff.mp h
  obtain ⟨q, hq, e⟩ := List.mem_map.mp (hp.mem_iff.mp (List.mem_of_getElem? hy))
  exact ⟨q, hq, by rw [← e]⟩
def NearV (tl : TL2) (pl : Nat) (y : V) : Prop := ∃ nm, y = V.str (S nm) ∧ ∃ j v, j < 16 ∧ nm = nmL j ∧ (nm, v) ∈ tl ∧ -120 < v - (pl : Int) ∧ v - (pl : Int) < 120
def SmallV (tl : TL2) (y : V) : Prop := ∃ nm, y = V.str (S nm) ∧ ∃ j v, j < 16 ∧ nm = nmC j ∧ (nm, v) ∈ tl
theorem way_at {d : Nat} {x : V} (h : ([.str "bz", .str "bnz", .str "jal"] : List V)[d]? = some x) : ∃ w ∈ branches, x = .str w := by
  have e : ([.str "bz", .str "bnz", .str "jal"] : List V) = branches.map V.str := rfl
  rw [e, List.getElem?_map] at h
  obtain ⟨s, h1, h2⟩ := Option.map_eq_some_iff.mp h
  exact ⟨s, List.mem_of_getElem? h1, h2.symm⟩
theorem way7_at {d : Nat} {x : V} (h : ([.str "addi", .str "ld", .str "st", .str "jr", .str "bz", .str "bnz", .str "jal"] : List V)[d]? = some x) : ∃ w, (w ∈ branches ∨ (w ∈ ways4 ∧ w ∉ branches)) ∧ x = .str w := by
  have e : ([.str "addi", .str "ld", .str "st", .str "jr", .str "bz", .str "bnz", .str "jal"] : List V) = (ways4 ++ branches).map V.str := rfl
  rw [e, List.getElem?_map] at h
  obtain ⟨s, h1, h2⟩ := Option.map_eq_some_iff.mp h
  have hm := List.mem_of_getElem? h1
  have go : ∀ w ∈ ways4, w ∉ branches := by decide +kernel
  rcases List.mem_append.mp hm with m | m
  · exact ⟨s, .inr ⟨m, go s m⟩, h2.symm⟩
  · exact ⟨s, .inl m, h2.symm⟩
theorem far_ok {w : Str} {d : Nat} {k : Int} (h : w ∈ branches) (hd : d < 8) (h1 : -128 ≤ k) (h2 : k ≤ 127) : InsOk w [d] [k] := ⟨_, _, _, _, _, way_far w h, shMF, rfl, fun r hr => by rw [List.mem_singleton] at hr; omega, .inr ⟨by decide, k, rfl, h1, h2⟩⟩
theorem near_ok {w : Str} {d e : Nat} {k : Int} (h : w ∈ ways4) (hd : d < 8) (he : e < 8) (h1 : -16 ≤ k) (h2 : k ≤ 15) : InsOk w [d, e] [k] := ⟨_, _, _, _, _, way_near w h, shM2, rfl, fun r hr => by
  have : r = d ∨ r = e := by simpa using hr
  omega, .inr ⟨by decide, k, rfl, h1, h2⟩⟩
theorem nop_ok : InsOk "nop" [] [] := ⟨_, _, _, _, _, (by decide +kernel : (("nop" : Str), ("bare" : Str)) ∈ opsT), shM0, rfl, (fun r hr => by cases hr), .inl ⟨rfl, rfl⟩⟩
theorem reg_len {d : Nat} (h : d < 8) : (Str.ofString (toString (d : Int))).length ≤ 1000 := by
  have := numT_short (k := (d : Int)) (by omega) (by omega)
  omega
theorem isEmpty_map {α β : Type} (f : α → β) (l : List α) : (l.map f).isEmpty = l.isEmpty := by cases l <;> rfl

section
variable {P : Program} {w : World} {K : PySem.W.Frag} {mg : Str → Option Value} {base : Heap}
abbrev N_law_deed : List Str := ["_law_pot_here", "_law_item", "_law_told_here", "_law_which", "_law_label", "_law_sort", "_law_more", "_law_place", "_law_near", "_law_small", "_law_name", "_law_way", "_law_some", "_law_deed_here"]
theorem sc_law_deed : FnScope N_law_deed ["_law_pot_here", "_law_item", "_law_told_here", "_law_which"] (defScope s_law_deed) := ⟨rfl, rfl, rfl, by decide +kernel, rfl, by decide +kernel, by decide +kernel⟩
def sp_law_deed : Sp := fun vs H Q _ => ∃ (p a0 D : Addr) (tl : TL2) (t d : Nat) (it : Item) (vm : V), vs = [.ref p, .ref a0, .ref D, .int (d : Int)] ∧ PotOk H p ∧ a0 ≠ p ∧ H a0 = some (.lst [labV t it.lab, .int (it.kind.sort : Int), vm, .int (it.place : Int)]) ∧ MoreAt H vm it.kind ∧ it.kind.Ok ∧ 6 ≤ it.kind.sort ∧ d < 8 ∧ H D = some (.dK (toldK tl)) ∧ tl.length ≤ 60 ∧ TlOk tl ∧ it.place ≤ 200 ∧
  ∀ H' r ws ml, Keep [p] H H' → PotOk H' p → H r = none → LineV H H' r ws ml → LineT tl t it.place it.kind ws ml → Q (.ref r) H'
theorem cal_law_deed (T : Tx w K mg) : C8.Cal P w K mg base 3 "_law_deed" sp_law_deed [] := by
  have c_law_said := cal_law_said (P := P) (base := base) T
  have c_law_pick := cal_law_pick (P := P) (base := base) T
  have c_law_word := cal_law_word (P := P) (base := base) T
  refine cal_of (st := s_law_deed) (ps := ["_law_pot_here", "_law_item", "_law_told_here", "_law_which"]) T.d_law_deed T.m_law_deed sc_law_deed (fun _ _ _ _ _ _ us hl => match us, hl with | [_, _, _, _], _ => rfl) (fun vs H Q E h => ?_) (fun cdv A outer s H vs Q E hr h => ?_)
  · obtain ⟨p, a0, D, tl, t, d, it, vm, rfl, _⟩ := h
    rfl
  · obtain ⟨p, a0, D, tl, t, d, it, vm, rfl, hp, ap, ea, hm, hk, hs6, hd8, eD, htl, hok, hpl, q⟩ := h
    refine ⟨_, (pss_cons (ps_asg (pv 1) (pg_lst rfl (pgs_cons (pg_name (i := 4) sc_law_deed.nd rfl (Or.inl rfl)) (pgs_cons (pg_name (i := 5) sc_law_deed.nd rfl (Or.inl rfl)) (pgs_cons (pg_name (i := 6) sc_law_deed.nd rfl (Or.inl rfl)) (pgs_cons (pg_name (i := 7) sc_law_deed.nd rfl (Or.inr rfl)) pgs_nil))))))
      (pss_cons (ps_if (pt_cmpR op_gt (pv 5) pe_int (nomark _))
        (pss_one (ps_ret (pe_tup (pa_cons (pe_c c_law_said hr (by decide) (by rfl) (pa_cons (pv 6) pa_nil)) (pa_cons (pe_lst (pa_cons (pe_c c_law_word hr (by decide) (by rfl) (pa_cons (pv 6) pa_nil)) pa_nil)) pa_nil)))))
        pss_nil)
      (pss_cons (ps_setLc (i := 8) (own := [("_law_name", 10)]) (g := gName 10) rfl sc_law_deed.nd rfl rfl (sw_true rfl rfl rfl (by decide +kernel)) (pi_list (pe_callB (call_sortedD rfl) (by rfl) T.f_sorted (by decide +kernel) (pa_cons (pv 2) pa_nil))) (blkOk_by (own := [("_law_name", 10)]) (N := N_law_deed) (sc := defScope s_law_deed) (by decide +kernel)) (fun _ _ _ _ _ => pg_name (i := 10) sc_law_deed.nd rfl (Or.inl rfl)) (fun _ _ _ _ _ => pts_one (PW.pt (pw_and (pt_cmpR op_eq (pe_ix ix_str (pv 10) pe_int (fun _ _ => rfl)) pe_str (nomark _)) (pw_and1 (pt_cmpR op_lt (pe_callB call_abs (by rfl) T.f_abs (by decide +kernel) (pa_cons (pe_op op_sub (pe_dget (by exact hu_of hr) (pv 2) (pv 10) (fun _ _ => rfl)) (pv 7)) pa_nil)) pe_int (nomark _)))))) (fun _ _ _ _ _ => (pv 10)))
      (pss_cons (ps_setLc (i := 9) (own := [("_law_name", 10)]) (g := gName 10) rfl sc_law_deed.nd rfl rfl (sw_true rfl rfl rfl (by decide +kernel)) (pi_list (pe_callB (call_sortedD rfl) (by rfl) T.f_sorted (by decide +kernel) (pa_cons (pv 2) pa_nil))) (blkOk_by (own := [("_law_name", 10)]) (N := N_law_deed) (sc := defScope s_law_deed) (by decide +kernel)) (fun _ _ _ _ _ => pg_name (i := 10) sc_law_deed.nd rfl (Or.inl rfl)) (fun _ _ _ _ _ => pts_one (pt_cmpR op_eq (pe_ix ix_str (pv 10) pe_int (fun _ _ => rfl)) pe_str (nomark _))) (fun _ _ _ _ _ => (pv 10)))
      (pss_cons (ps_if (PW.pt (pw_and (pt_cmpR op_eq (pv 5) pe_int (nomark _)) (pw_and1 (pt_cmpR (op_neD hr.units) (pv 8) (pe_lst pa_nil) (nomark _)))))
        (pss_cons (ps_par (i := 10) (j := 11) (by rfl) sc_law_deed.nd rfl rfl (by decide) rfl rfl (pa_cons (pe_c c_law_pick hr (by decide) (by rfl) (pa_cons (pv 0) (pa_cons (pv 8) pa_nil))) (pa_cons (pe_c c_law_pick hr (by decide) (by rfl) (pa_cons (pv 0) (pa_cons (pe_lst (pa_cons pe_str (pa_cons pe_str (pa_cons pe_str pa_nil)))) pa_nil))) pa_nil)) (by rfl))
        (pss_one (ps_ret (pe_tup (pa_cons (pe_lst (pa_cons (pv 11) (pa_cons (pe_op op_add_str pe_str (pe_callTy call_str_int (by rfl) T.f_str (by decide +kernel) (pa_cons (pv 3) pa_nil))) (pa_cons (pv 10) pa_nil)))) (pa_cons (pe_lst (pa_cons (pe_c c_law_word hr (by decide) (by rfl) (pa_cons (pe_tup (pa_cons (pv 11) (pa_cons (pv 3) (pa_cons (pe_op op_sub (pe_dget (by exact hu_of hr) (pv 2) (pv 10) (fun _ _ => rfl)) (pv 7)) pa_nil)))) pa_nil)) pa_nil)) pa_nil))))))
        pss_nil)
      (pss_cons (ps_if (PW.pt (pw_and (pt_cmpR op_eq (pv 5) pe_int (nomark _)) (pw_and1 (pt_cmpR (op_neD hr.units) (pv 9) (pe_lst pa_nil) (nomark _)))))
        (pss_cons (ps_set (i := 12) sc_law_deed.nd rfl (Or.inl rfl) (pe_lst (pa_cons pe_str (pa_cons pe_str (pa_cons pe_str (pa_cons pe_str (pa_cons pe_str (pa_cons pe_str (pa_cons pe_str pa_nil)))))))))
        (pss_cons (ps_par (i := 10) (j := 11) (by rfl) sc_law_deed.nd rfl rfl (by decide) rfl rfl (pa_cons (pe_c c_law_pick hr (by decide) (by rfl) (pa_cons (pv 0) (pa_cons (pv 9) pa_nil))) (pa_cons (pe_c c_law_pick hr (by decide) (by rfl) (pa_cons (pv 0) (pa_cons (pv 12) pa_nil))) pa_nil)) (by rfl))
        (pss_cons (ps_if (pt_cmpR op_in_seq (pv 11) (pe_tup (pa_cons pe_str (pa_cons pe_str (pa_cons pe_str pa_nil)))) (by rfl))
          (pss_one (ps_ret (pe_tup (pa_cons (pe_lst (pa_cons (pv 11) (pa_cons (pe_op op_add_str pe_str (pe_callTy call_str_int (by rfl) T.f_str (by decide +kernel) (pa_cons (pv 3) pa_nil))) (pa_cons (pv 10) pa_nil)))) (pa_cons (pe_lst (pa_cons (pe_c c_law_word hr (by decide) (by rfl) (pa_cons (pe_tup (pa_cons (pv 11) (pa_cons (pv 3) (pa_cons (pe_dget (by exact hu_of hr) (pv 2) (pv 10) (fun _ _ => rfl)) pa_nil)))) pa_nil)) pa_nil)) pa_nil)))))
          pss_nil)
        (pss_cons (ps_set (i := 13) sc_law_deed.nd rfl (Or.inl rfl) (pe_tup (pa_cons (pv 11) (pa_cons (pv 3) (pa_cons (pe_op op_sub pe_int (pv 3)) (pa_cons (pe_dget (by exact hu_of hr) (pv 2) (pv 10) (fun _ _ => rfl)) pa_nil))))))
        (pss_one (ps_ret (pe_tup (pa_cons (pe_lst (pa_cons (pv 11) (pa_cons (pe_op op_add_str pe_str (pe_callTy call_str_int (by rfl) T.f_str (by decide +kernel) (pa_cons (pv 3) pa_nil))) (pa_cons (pe_op op_add_str pe_str (pe_callTy call_str_int (by rfl) T.f_str (by decide +kernel) (pa_cons (pe_op op_sub pe_int (pv 3)) pa_nil))) (pa_cons (pv 10) pa_nil))))) (pa_cons (pe_lst (pa_cons (pe_c c_law_word hr (by decide) (by rfl) (pa_cons (pv 13) pa_nil)) pa_nil)) pa_nil)))))))))
        pss_nil)
      (pss_one (ps_ret (pe_tup (pa_cons (pe_lst (pa_cons pe_str pa_nil)) (pa_cons (pe_lst (pa_cons (pe_c c_law_word hr (by decide) (by rfl) (pa_cons (pe_tup (pa_cons pe_str pa_nil)) pa_nil)) pa_nil)) pa_nil))))))))))), ?_⟩
    have hit : ∀ {H1 : Hp}, Keep [p] H H1 → SqL K H1 a0 [labV t it.lab, .int (it.kind.sort : Int), vm, .int (it.place : Int)] := fun k => .inl (.inl (k.one ap ea))
    have Dnp : D ≠ p := fun z => by
      obtain ⟨_, _, e, _⟩ := hp
      rw [z, e] at eD
      cases eD
    have np0 : NoTup [p] H := fun a ha xs e => by
      have : a = p := by simpa using ha
      obtain ⟨_, _, e2, _⟩ := hp
      rw [this, e2] at e
      cases e
    have fin : ∀ (H5 : Hp) (a b r : Addr) (ws : List (List Nat)) (wd : Int), Keep [p] H H5 → PotOk H5 p → H a = none → H5 a = some (.lst (ws.map strV)) → LineT tl t it.place it.kind ws [wd] → H5 b = none → (upd H5 b (.lst [.int wd])) r = none → Q (.ref r) (upd (upd H5 b (.lst [.int wd])) r (.tup [.ref a, .ref b])) := fun H5 a b r ws wd k5 hp5 na ea hL nb nr => by
      generalize hH : upd H5 b _ = H6 at nr ⊢
      have s6 := new_same hH nb
      have e6 := new_at hH
      generalize hH2 : upd H6 r _ = H7
      have s7 := new_same hH2 nr
      have e7 := new_at hH2
      have pn : ∀ {x : Addr}, H5 x = none → H x = none := fun {x} hx => fresh_keep k5 (fun m => by
        have e : x = p := by simpa using m
        obtain ⟨_, _, e2, _⟩ := hp5
        rw [e, e2] at hx
        cases hx) hx
      exact q H7 r ws [wd] (k5.trans (Keep.of_same (s6.trans s7))) (hp5.same (s6.trans s7)) (pn (s6.free nr)) ⟨a, b, e7, na, pn nb, (s6.trans s7) _ _ ea, s7 _ _ e6⟩ hL
    refine ⟨_, rfl, a0, _, rfl, hit (Keep.refl _ _), rfl, _, _, rfl, _, _, rfl, _, _, rfl, _, _, rfl, rfl, ?_⟩
    refine ⟨_, rfl, _, _, rfl, rfl, _, rfl, ?_⟩
    by_cases h7 : 7 < it.kind.sort
    · refine iteDT (by omega) ?_
      obtain ⟨s, n, regs, imm, hkd⟩ : ∃ s n regs imm, it.kind = .ins s n regs imm := by
        cases e : it.kind with
        | ins s n regs imm => exact ⟨s, n, regs, imm, rfl⟩
        | _ =>
          rw [e] at h7
          simp only [IK.sort] at h7
          omega
      rw [hkd] at hm hk fin
      obtain ⟨u, rfl, hu⟩ := hm
      obtain ⟨wd, hw⟩ := hk.2.2.word
      refine ⟨_, rfl, u, n, regs, imm, wd, rfl, hu, hw, fun H1 L s1 nL eL => ?_⟩
      refine ⟨_, rfl, u, n, regs, imm, wd, rfl, s1 _ _ hu, hw, fun H2 s2 => ?_⟩
      have sA := s1.trans s2
      exact ⟨sz (by show 1 ≤ 1000000; decide), fun b nb => ⟨sz (by show 2 ≤ 1000000; decide), fun r nr => fin H2 L b r _ wd (Keep.of_same sA) (hp.same sA) nL (s2 _ _ eL) (.ins hw) nb nr⟩⟩
    refine iteDF (by omega) ?_
    delta tNext
    dsimp only
    refine ⟨_, rfl, D, _, tl.map fun q => S q.1, rfl, .inl eD, sorted_told tl, by rw [List.length_map]; omega, fun ys L hperm _ nL => ?_⟩
    generalize hH : upd _ L _ = H1
    have s1 := new_same hH nL
    have e1 := new_at hH
    have hyl : ys.length = tl.length := by rw [hperm.length_eq, List.length_map]
    have hget : ∀ {H2 : Hp} {q : List Nat × Int}, H2 D = some (.dK (toldK tl)) → q ∈ tl → DGet H2 D (.str (S q.1)) (some (.int q.2)) := fun {H2} {q} e hq => by
      have h1 := DGet.k (k := Sum.inr (S q.1)) e
      have h2 : valV (toldK tl) (.inr (S q.1)) = some (.int q.2) := toldK_some hok.1 hq
      rw [h2] at h1
      exact h1
    refine ⟨L, rfl, ⟨_, .inl (.inl e1)⟩, fun D8 nD8 => ?_⟩
    refine lc_filt (walk_list (xs := ys.map V.str)) nD8 (by rw [List.length_map]; omega) (NearV tl it.place) (fun H2 s2 => .inl (.inl (s2 _ _ e1))) (fun i x H2 H3 C Cf hi s2 y yes no => ?_) (fun H2 zs s2 hzl e2 hR => ?_)
    · obtain ⟨rfl, hx⟩ := y
      obtain ⟨qq, hq, rfl⟩ := told_at hperm hx
      obtain ⟨k, j, hj, hnm, hc, hnc⟩ := hok.2 qq hq
      have hg := hok.good qq hq
      have hgl := goodW_len hg
      have eD2 := s2 _ _ (s1 _ _ eD)
      obtain ⟨c0, r0, hcr⟩ : ∃ c0 r0, qq.1 = c0 :: r0 := by rw [hnm]; cases k <;> exact ⟨_, _, rfl⟩
      refine ⟨rfl, _, rfl, _, _, c0, rfl, rfl, sz (by rw [S_len]; omega), atI_nat (j := 0) (by rw [hcr]; rfl), rfl, _, rfl, ?_⟩
      rw [str_l]
      by_cases hl : k = .l
      · subst hl
        have hcl : c0 = 108 := by rw [hnm] at hcr; exact (List.cons.inj hcr).1.symm
        refine iteDT (by rw [hcl]) ⟨_, rfl, _, rfl, D, _, rfl, hget eD2 hq, _, rfl, _, _, rfl, rfl, _, rfl, ?_⟩
        obtain ⟨v1, v2⟩ := hnc (by intro z; cases z)
        refine ⟨_, _, rfl, rfl, _, rfl, ?_⟩
        by_cases hd : (if qq.2 - (it.place : Int) < 0 then -(qq.2 - (it.place : Int)) else qq.2 - (it.place : Int)) < 120
        · refine iteDT hd ⟨_, rfl, yes _ _ (Same.refl _) ⟨qq.1, rfl, j, qq.2, hj, hnm, hq, ?_, ?_⟩⟩
          · split at hd <;> omega
          · split at hd <;> omega
        · exact iteDF hd (no _ (Same.refl _))
      · have hcl : c0 ≠ 108 := by
          rw [hnm] at hcr
          cases k with
          | l => exact absurd rfl hl
          | c => rw [← (List.cons.inj hcr).1]; decide
          | m => rw [← (List.cons.inj hcr).1]; decide
        refine iteDF (fun z => hcl ?_) (iteF (no _ (Same.refl _)))
        have := S_inj (V.str.inj z)
        exact (List.cons.inj this).1
    obtain ⟨nears, rfl, hnear⟩ := strs_of hR
    have s12 := s1.trans s2
    have eD2 := s12 _ _ eD
    refine ⟨_, rfl, D, _, tl.map fun q => S q.1, rfl, .inl eD2, sorted_told tl, by rw [List.length_map]; omega, fun ys2 LL hperm2 _ nL2 => ?_⟩
    generalize hH2 : upd _ LL _ = H3
    have s3 := new_same hH2 nL2
    have e3 := new_at hH2
    have hyl2 : ys2.length = tl.length := by rw [hperm2.length_eq, List.length_map]
    refine ⟨LL, rfl, ⟨_, .inl (.inl e3)⟩, fun D9 nD9 => ?_⟩
    refine lc_filt (walk_list (xs := ys2.map V.str)) nD9 (by rw [List.length_map]; omega) (SmallV tl) (fun H4 s4 => .inl (.inl (s4 _ _ e3))) (fun i x H4 H5 C Cf hi s4 y yes no => ?_) (fun H4 zs2 s4 hzl2 e4 hR2 => ?_)
    · obtain ⟨rfl, hx⟩ := y
      obtain ⟨qq, hq, rfl⟩ := told_at hperm2 hx
      obtain ⟨k, j, hj, hnm, hc, hnc⟩ := hok.2 qq hq
      have hg := hok.good qq hq
      have hgl := goodW_len hg
      obtain ⟨c0, r0, hcr⟩ : ∃ c0 r0, qq.1 = c0 :: r0 := by rw [hnm]; cases k <;> exact ⟨_, _, rfl⟩
      refine ⟨rfl, _, rfl, _, _, c0, rfl, rfl, sz (by rw [S_len]; omega), atI_nat (j := 0) (by rw [hcr]; rfl), rfl, _, rfl, ?_⟩
      rw [str_c]
      by_cases hl : k = .c
      · subst hl
        have hcl : c0 = 99 := by rw [hnm] at hcr; exact (List.cons.inj hcr).1.symm
        exact iteDT (by rw [hcl]) ⟨_, rfl, yes _ _ (Same.refl _) ⟨qq.1, rfl, j, qq.2, hj, hnm, hq⟩⟩
      · have hcl : c0 ≠ 99 := by
          rw [hnm] at hcr
          cases k with
          | c => exact absurd rfl hl
          | l => rw [← (List.cons.inj hcr).1]; decide
          | m => rw [← (List.cons.inj hcr).1]; decide
        refine iteDF (fun z => hcl ?_) (no _ (Same.refl _))
        have := S_inj (V.str.inj z)
        exact (List.cons.inj this).1
    obtain ⟨smalls, rfl, hsmall⟩ := strs_of hR2
    have s34 := s3.trans s4
    have s14 := s12.trans s34
    have eD4 := s14 _ _ eD
    have hp4 := hp.same s14
    have e2' := s34 _ _ e2
    have deep : ∀ {H6 : Hp} {x : Addr}, Keep [p] H H6 → PotOk H6 p → H6 x = none → H x = none := fun {H6} {x} k hp6 hx => fresh_keep k (fun m => by
      have e : x = p := by simpa using m
      obtain ⟨_, _, e2, _⟩ := hp6
      rw [e, e2] at hx
      cases hx) hx
    have pne : ∀ {H6 : Hp} {x : Addr}, PotOk H6 p → H6 x = none → x ≠ p := fun {H6} {x} hp6 hx z => by
      obtain ⟨_, _, e2, _⟩ := hp6
      rw [z, e2] at hx
      cases hx
    have regt := reg_len hd8
    have hr1 : ("r" : Str).length = 1 := by decide +kernel
    -- a deed of no name
    have bare : ∀ H6, Same H H6 → (it.kind = .six ∨ it.kind = .seven) →
        tRet (tTup (tCons (tLst (tCons (tC (V.str "nop")) tNil)) (tCons (tLst (tCons (tCall sp_law_word [] C8.E0 (tCons (tTup (tCons (tC (V.str "nop")) tNil)) tNil)) tNil)) tNil))) { nx := fun x H' => Q V.non H', rt := Q } [some (.ref p), some (.ref a0), some (.ref D), some (.int (d : Int)), some (labV t it.lab), some (.int (it.kind.sort : Int)), some vm, some (.int (it.place : Int)), some (.ref D8), some (.ref D9), none, none, none, none] H6 := fun H6 s6 hkk => by
      refine ⟨sz (by show 1 ≤ 1000000; decide), fun a na => ?_⟩
      generalize hH : upd _ a _ = H7
      have s7 := new_same hH na
      have e7 : H7 a = some (.lst [.str "nop"]) := new_at hH
      refine ⟨sz (by show 1 ≤ 1000000; decide), fun u nu => ?_⟩
      generalize hH : upd _ u _ = H8
      have s8 := new_same hH nu
      have e8 : InsAt H8 u "nop" [] [] := new_at hH
      obtain ⟨wd, hw⟩ := nop_ok.word
      refine ⟨u, _, [], [], wd, rfl, e8, hw, fun H9 s9 => ?_⟩
      have sB := s6.trans (s7.trans (s8.trans s9))
      refine ⟨sz (by show 1 ≤ 1000000; decide), fun b nb => ⟨sz (by show 2 ≤ 1000000; decide), fun r nr => fin H9 a b r [cl "nop"] wd (Keep.of_same sB) (hp.same sB) (s6.free na) ?_ (.nop hkk hw) nb nr⟩⟩
      rw [(s8.trans s9) _ _ e7]
      show _ = some (HO.lst [.str (S (cl "nop"))])
      rw [S_cl]
    have kinds : it.kind = .six ∨ it.kind = .seven := by
      cases e : it.kind with
      | six => exact .inl rfl
      | seven => exact .inr rfl
      | ins s n r i => rw [e] at hk h7; simp only [IK.sort] at h7; have := hk.1; omega
      | _ => rw [e] at hs6; simp only [IK.sort] at hs6; omega
    refine ⟨_, rfl, rfl, _, rfl, ?_⟩
    rcases kinds with hk6 | hk7
    · refine iteDT (by rw [hk6]; rfl) ?_
      refine ⟨_, rfl, Nat.zero_le _, fun u nu => ?_⟩
      generalize hH5 : upd _ u _ = H5
      have s5 := new_same hH5 nu
      have e5 : H5 u = some (.lst []) := new_at hH5
      have s15 := s14.trans s5
      refine ⟨_, _, .lst (.inl (.inl (s5 _ _ e2'))) (dp_strs _ _ nears), .lst (.inl (.inl e5)) .nil, (sh_strs fun x hx => ?_).shaped (by decide), sh_nil.shaped (by decide), _, rfl, ?_⟩
      · obtain ⟨j, v, hj, e, _⟩ := hnear x hx
        rw [e]
        exact goodW_asc (nmK_good (k := .l) hj)
      rw [eqv_nil, isEmpty_map]
      cases hem : nears.isEmpty with
      | true =>
        refine iteF ?_
        dsimp only
        refine ⟨_, rfl, rfl, _, rfl, iteDF (by rw [hk6]; decide) (iteF ?_)⟩
        exact bare H5 s15 (.inl hk6)
      | false =>
        refine iteT ?_
        have hnl : 0 < nears.length := by
          cases nears with
          | nil => cases hem
          | cons _ _ => simp
        have D8p : D8 ≠ p := pne (hp.same s1) nD8
        have hzl' : nears.length ≤ 60 := by
          have : (nears.map fun x => V.str (S x)).length ≤ (ys.map V.str).length := hzl
          simp at this
          omega
        refine ⟨_, rfl, _, rfl, p, D8, _, rfl, hp.same s15, s5 _ _ e2', D8p, by rw [List.length_map]; exact hnl, by rw [List.length_map]; omega, fun e x H6 hx k6 hp6 => ?_⟩
        rw [List.getElem?_map] at hx
        obtain ⟨nm, hnm, rfl⟩ := Option.map_eq_some_iff.mp hx
        obtain ⟨j, v, hj, rfl, hmem, hv1, hv2⟩ := hnear nm (List.mem_of_getElem? hnm)
        have k06 : Keep [p] H H6 := (Keep.of_same s15).trans k6
        refine ⟨_, rfl, sz (by show 3 ≤ 1000000; decide), fun W nW => ?_⟩
        generalize hH7 : upd _ W _ = H7
        have s7 := new_same hH7 nW
        have e7 := new_at hH7
        refine ⟨p, W, _, rfl, hp6.same s7, e7, pne hp6 nW, by show 0 < 3; decide, by show 3 ≤ 1000; decide, fun e2 x2 H8 hx2 k8 hp8 => ?_⟩
        obtain ⟨way, hway, rfl⟩ := way_at hx2
        have k08 : Keep [p] H H8 := k06.trans ((Keep.of_same s7).trans k8)
        refine ⟨_, _, rfl, ?_⟩
        refine ⟨_, rfl, _, rfl, _, rfl, log2_few (by omega), _, _, rfl, rfl, sz (by omega), ?_⟩
        rw [reg_text hd8]
        refine ⟨_, rfl, sz (by show 3 ≤ 1000000; decide), fun a na => ?_⟩
        generalize hH9 : upd _ a _ = H9
        have s9 := new_same hH9 na
        have e9 := new_at hH9
        have eD9 := s9 _ _ (k08.one Dnp eD)
        refine ⟨_, rfl, _, rfl, _, rfl, _, rfl, D, _, rfl, hget eD9 hmem, _, rfl, _, _, rfl, rfl, sz (by show 3 ≤ 1000000; decide), fun w2 nw2 => ?_⟩
        generalize hHA : upd _ w2 _ = HA
        have sA := new_same hHA nw2
        have eA : InsAt HA w2 way [d] [v - (it.place : Int)] := new_at hHA
        obtain ⟨wd, hw⟩ := (far_ok (k := v - (it.place : Int)) hway hd8 (by omega) (by omega)).word
        refine ⟨w2, _, _, _, wd, rfl, eA, hw, fun HB sB => ?_⟩
        have kB := k08.trans (Keep.of_same (s9.trans (sA.trans sB)))
        have hpB := hp8.same (s9.trans (sA.trans sB))
        refine ⟨sz (by show 1 ≤ 1000000; decide), fun b nb => ⟨sz (by show 2 ≤ 1000000; decide), fun r nr => fin HB a b r [cl way, regW d, nmL j] wd kB hpB (deep k08 hp8 na) ?_ (by rw [hk6]; exact .near hway hd8 hj hmem hw) nb nr⟩⟩
        rw [(sA.trans sB) _ _ e9]
        show _ = some (HO.lst [.str (S (cl way)), .str (S (regW d)), .str (S (nmL j))])
        rw [S_cl]
    · refine iteDF (by rw [hk7]; decide) (iteF ?_)
      dsimp only
      refine ⟨_, rfl, rfl, _, rfl, iteDT (by rw [hk7]; rfl) ?_⟩
      refine ⟨_, rfl, Nat.zero_le _, fun u nu => ?_⟩
      generalize hH5 : upd _ u _ = H5
      have s5 := new_same hH5 nu
      have e5 : H5 u = some (.lst []) := new_at hH5
      have s15 := s14.trans s5
      refine ⟨_, _, .lst (.inl (.inl (s5 _ _ e4))) (dp_strs _ _ smalls), .lst (.inl (.inl e5)) .nil, (sh_strs fun x hx => ?_).shaped (by decide), sh_nil.shaped (by decide), _, rfl, ?_⟩
      · obtain ⟨j, v, hj, e, _⟩ := hsmall x hx
        rw [e]
        exact goodW_asc (nmK_good (k := .c) hj)
      rw [eqv_nil, isEmpty_map]
      cases hem : smalls.isEmpty with
      | true =>
        refine iteF ?_
        exact bare H5 s15 (.inr hk7)
      | false =>
        refine iteT ?_
        have hnl : 0 < smalls.length := by
          cases smalls with
          | nil => cases hem
          | cons _ _ => simp
        have D9p : D9 ≠ p := pne (hp.same (s12.trans s3)) nD9
        have hzl' : smalls.length ≤ 60 := by
          have : (smalls.map fun x => V.str (S x)).length ≤ (ys2.map V.str).length := hzl2
          simp at this
          omega
        refine ⟨sz (by show 7 ≤ 1000000; decide), fun W nW => ?_⟩
        generalize hH7 : upd _ W _ = H7
        have s7 := new_same hH7 nW
        have e7 := new_at hH7
        have s17 := s15.trans s7
        have Wp : W ≠ p := pne (hp.same s15) nW
        refine ⟨_, rfl, _, rfl, p, D9, _, rfl, hp.same s17, s7 _ _ (s5 _ _ e4), D9p, by rw [List.length_map]; exact hnl, by rw [List.length_map]; omega, fun e x H8 hx k8 hp8 => ?_⟩
        rw [List.getElem?_map] at hx
        obtain ⟨nm, hnm, rfl⟩ := Option.map_eq_some_iff.mp hx
        obtain ⟨j, v, hj, rfl, hmem⟩ := hsmall nm (List.mem_of_getElem? hnm)
        have hv : 3 ≤ v ∧ v ≤ 15 := by
          obtain ⟨k, j2, hj2, e, hc, _⟩ := hok.2 _ hmem
          exact hc (nmK_inj (a := .c) hj hj2 e).1.symm
        refine ⟨_, rfl, _, rfl, p, W, _, rfl, hp8, k8.one Wp e7, Wp, by show 0 < 7; decide, by show 7 ≤ 1000; decide, fun e2 x2 H9 hx2 k9 hp9 => ?_⟩
        obtain ⟨way, hway, rfl⟩ := way7_at hx2
        have k09 : Keep [p] H H9 := (Keep.of_same s17).trans (k8.trans k9)
        refine ⟨_, _, rfl, ?_⟩
        refine ⟨_, rfl, sz (by show 3 ≤ 1000000; decide), fun g ng => ?_⟩
        generalize hHA : upd _ g _ = HA
        have sA := new_same hHA ng
        have eA := new_at hHA
        have k0A := k09.trans (Keep.of_same sA)
        have hpA := hp9.same sA
        refine ⟨g, _, rfl, .inr (.inl (.inl eA)), rfl, rfl, _, rfl, ?_⟩
        dsimp only
        rw [inV_branch]
        have eDA := k0A.one Dnp eD
        by_cases hb : way ∈ branches
        · refine iteDT hb ?_
          refine ⟨_, rfl, _, rfl, _, rfl, log2_few (by omega), _, _, rfl, rfl, sz (by omega), ?_⟩
          rw [reg_text hd8]
          refine ⟨_, rfl, sz (by show 3 ≤ 1000000; decide), fun a na => ?_⟩
          generalize hHB : upd _ a _ = HB
          have sB := new_same hHB na
          have eB := new_at hHB
          refine ⟨_, rfl, _, rfl, _, rfl, _, rfl, D, _, rfl, hget (sB _ _ eDA) hmem, sz (by show 3 ≤ 1000000; decide), fun w2 nw2 => ?_⟩
          generalize hHC : upd _ w2 _ = HC
          have sC := new_same hHC nw2
          have eC : InsAt HC w2 way [d] [v] := new_at hHC
          obtain ⟨wd, hw⟩ := (far_ok (k := v) hb hd8 (by omega) (by omega)).word
          refine ⟨w2, _, _, _, wd, rfl, eC, hw, fun HD sD => ?_⟩
          have kD := k0A.trans (Keep.of_same (sB.trans (sC.trans sD)))
          have hpD := hpA.same (sB.trans (sC.trans sD))
          refine ⟨sz (by show 1 ≤ 1000000; decide), fun b nb => ⟨sz (by show 2 ≤ 1000000; decide), fun r nr => fin HD a b r [cl way, regW d, nmC j] wd kD hpD (deep k0A hpA na) ?_ (by rw [hk7]; exact .smallB hb hd8 hj hmem hw) nb nr⟩⟩
          rw [(sC.trans sD) _ _ eB]
          show _ = some (HO.lst [.str (S (cl way)), .str (S (regW d)), .str (S (nmC j))])
          rw [S_cl]
        · refine iteDF hb ?_
          have h4 : way ∈ ways4 := by
            rcases hway with h | h
            · exact absurd h hb
            · exact h.1
          have hd7 : 7 - d < 8 := by omega
          have e7d : (7 : Int) - (d : Int) = ((7 - d : Nat) : Int) := by omega
          show tSeq _ _ _ _ _
          refine ⟨_, rfl, _, rfl, _, rfl, _, _, rfl, rfl, _, rfl, _, rfl, D, _, rfl, hget eDA hmem, sz (by show 4 ≤ 1000000; decide), fun w2 nw2 => ?_⟩
          generalize hHC : upd _ w2 _ = HC
          have sC := new_same hHC nw2
          have eC0 : HC w2 = some (.tup [.str way, .int (d : Int), .int ((7 : Int) - (d : Int)), .int v]) := new_at hHC
          rw [e7d] at eC0
          have eC : InsAt HC w2 way [d, 7 - d] [v] := eC0
          have kC := k0A.trans (Keep.of_same sC)
          have hpC := hpA.same sC
          refine ⟨_, rfl, _, rfl, _, rfl, log2_few (by omega), _, _, rfl, rfl, sz (by omega), ?_⟩
          rw [reg_text hd8]
          have regt7 := reg_len hd7
          have regx : ("r" : Str) ++ Str.ofString (toString ((7 : Int) - (d : Int))) = S (regW (7 - d)) := by
            rw [e7d]
            exact reg_text hd7
          rw [← e7d] at regt7
          refine ⟨_, rfl, _, _, rfl, rfl, _, rfl, log2_few (by omega), _, _, rfl, rfl, sz (by omega), ?_⟩
          rw [regx]
          refine ⟨_, rfl, sz (by show 4 ≤ 1000000; decide), fun a na => ?_⟩
          generalize hHB : upd _ a _ = HB
          have sB := new_same hHB na
          have eB := new_at hHB
          obtain ⟨wd, hw⟩ := (near_ok (k := v) h4 hd8 hd7 (by omega) (by omega)).word
          refine ⟨_, rfl, w2, _, _, _, wd, rfl, sB _ _ eC, hw, fun HD sD => ?_⟩
          have kD := kC.trans (Keep.of_same (sB.trans sD))
          have hpD := hpC.same (sB.trans sD)
          refine ⟨sz (by show 1 ≤ 1000000; decide), fun b nb => ⟨sz (by show 2 ≤ 1000000; decide), fun r nr => fin HD a b r [cl way, regW d, regW (7 - d), nmC j] wd kD hpD (deep kC hpC na) ?_ (by rw [hk7]; exact .small h4 hd8 hj hmem hw) nb nr⟩⟩
          rw [sD _ _ eB]
          show _ = some (HO.lst [.str (S (cl way)), .str (S (regW d)), .str (S (regW (7 - d))), .str (S (nmC j))])
          rw [S_cl]
end
end K21
/-! ## XA -/
set_option Elab.async false
set_option linter.all false
set_option maxRecDepth 100000
set_option maxHeartbeats 4000000
namespace K21
open PySem PySem.Spec PyProof.Rows L2 C8
local macro_rules | `(tactic| walk_at "adv") => `(tactic| repeat (first | refine ⟨_, rfl, ?_⟩ | refine ⟨rfl, ?_⟩ | refine ⟨_, _, rfl, rfl, ?_⟩ | refine iteT ?_ | refine iteF ?_))

theorem rep_zero (n : Nat) : (List.replicate ((n : Int)).toNat [V.int 0]).flatten = (List.replicate n (0 : Int)).map V.int := by
  rw [Int.toNat_natCast]
  induction n with
  | zero => rfl
  | succ n ih =>
    rw [List.replicate_succ, List.replicate_succ, List.flatten_cons, ih]
    rfl
theorem lim_ok {d : Nat} {k : Int} (hd : d < 8) (h1 : 0 ≤ k) (h2 : k ≤ 255) : InsOk "lim" [d] [k] := ⟨_, _, _, _, _, (by decide +kernel : (("lim" : Str), ("byte" : Str)) ∈ opsT), shMB, rfl, (fun r hr => by rw [List.mem_singleton] at hr; omega), .inr ⟨by decide, k, rfl, h1, h2⟩⟩
theorem lhi_ok {d : Nat} {k : Int} (hd : d < 8) (h1 : 0 ≤ k) (h2 : k ≤ 255) : InsOk "lhi" [d] [k] := ⟨_, _, _, _, _, (by decide +kernel : (("lhi" : Str), ("byte" : Str)) ∈ opsT), shMB, rfl, (fun r hr => by rw [List.mem_singleton] at hr; omega), .inr ⟨by decide, k, rfl, h1, h2⟩⟩
def WLoopI (p a0 D W L : Addr) (tl : TL2) (H0 H1 : Hp) (n : Nat) (u4 u5 u6 u7 u8 : Option V) (i : Nat) (σ : L2.St) (H : Hp) : Prop := ∃ (ss : List (List Nat)) (ks : List Int) (y3 y11 y12 : Option V), σ = [some (.ref p), some (.ref a0), some (.ref D), y3, u4, u5, u6, u7, u8, some (.ref W), some (.ref L), y11, y12, none, none, none] ∧
  Keep [p, W, L] H1 H ∧ PotOk H p ∧ ss.length = i ∧ Paired (ValT tl) ss ks ∧ H W = some (.lst ((cl ".word" :: ss).map strV)) ∧ H L = some (.lst ((ks.map fun k => k % 65536).map V.int))
theorem paired_len {α β : Type} {F : α → β → Prop} {l : List α} {m : List β} (h : Paired F l m) : l.length = m.length := by
  induction h with
  | nil => rfl
  | cons _ _ ih => exact congrArg (· + 1) ih
theorem chr_one (c : Nat) : (⟨#[c]⟩ : Str).length = 1 := rfl

section
variable {P : Program} {w : World} {K : PySem.W.Frag} {mg : Str → Option Value} {base : Heap}
abbrev N_law_line : List Str := ["_law_pot_here", "_law_item", "_law_told_here", "_law_turn", "_law_label", "_law_sort", "_law_more", "_law_place", "_law_which", "_law_words", "_law_laid", "_law_said_here", "_law_worth", "_law_low", "_law_high", "_law_sign"]
theorem sc_law_line : FnScope N_law_line ["_law_pot_here", "_law_item", "_law_told_here", "_law_turn"] (defScope s_law_line) := ⟨rfl, rfl, rfl, by decide +kernel, rfl, by decide +kernel, by decide +kernel⟩
def sp_law_line : Sp := fun vs H Q _ => ∃ (p a0 D : Addr) (tl : TL2) (t : Nat) (it : Item) (vm : V), vs = [.ref p, .ref a0, .ref D, .int (t : Int)] ∧ t < 16 ∧ PotOk H p ∧ a0 ≠ p ∧ H a0 = some (.lst [labV t it.lab, .int (it.kind.sort : Int), vm, .int (it.place : Int)]) ∧ MoreAt H vm it.kind ∧ it.kind.Ok ∧ H D = some (.dK (toldK tl)) ∧ tl.length ≤ 60 ∧ TlOk tl ∧ it.place ≤ 200 ∧
  ∀ H' r ws ml, Keep [p] H H' → PotOk H' p → H r = none → LineV H H' r ws ml → LineT tl t it.place it.kind ws ml → Q (.ref r) H'
theorem cal_law_line (T : Tx w K mg) : C8.Cal P w K mg base 4 "_law_line" sp_law_line [] := by
  have c_law_draw := cal_law_draw (P := P) (base := base) T
  have c_law_deed := cal_law_deed (P := P) (base := base) T
  have c_law_value := cal_law_value (P := P) (base := base) T
  have c_law_number := cal_law_number (P := P) (base := base) T
  have c_law_word := cal_law_word (P := P) (base := base) T
  refine cal_of (st := s_law_line) (ps := ["_law_pot_here", "_law_item", "_law_told_here", "_law_turn"]) T.d_law_line T.m_law_line sc_law_line (fun _ _ _ _ _ _ us hl => match us, hl with | [_, _, _, _], _ => rfl) (fun vs H Q E h => ?_) (fun cdv A outer s H vs Q E hr h => ?_)
  · obtain ⟨p, a0, D, tl, t, it, vm, rfl, _⟩ := h
    rfl
  · obtain ⟨p, a0, D, tl, t, it, vm, rfl, ht, hp, ap, ea, hm, hk, eD, htl, hok, hpl, q⟩ := h
    refine ⟨_, (pss_cons (ps_asg (pv 1) (pg_lst rfl (pgs_cons (pg_name (i := 4) sc_law_line.nd rfl (Or.inl rfl)) (pgs_cons (pg_name (i := 5) sc_law_line.nd rfl (Or.inl rfl)) (pgs_cons (pg_name (i := 6) sc_law_line.nd rfl (Or.inl rfl)) (pgs_cons (pg_name (i := 7) sc_law_line.nd rfl (Or.inl rfl)) pgs_nil))))))
      (pss_cons (ps_if (pt_cmpR op_eq (pv 5) pe_int (nomark _))
        (pss_one (ps_ret (pe_tup (pa_cons (pe_lst (pa_cons (pe_op op_add_str pe_str (pe_callTy call_str_int (by rfl) T.f_str (by decide +kernel) (pa_cons (pv 3) pa_nil))) (pa_cons pe_str (pa_cons (pe_c c_law_number hr (by decide) (by rfl) (pa_cons (pv 0) (pa_cons (pv 6) pa_nil))) pa_nil)))) (pa_cons (pe_lst pa_nil) pa_nil)))))
        pss_nil)
      (pss_cons (ps_if (pt_cmpR op_eq (pv 5) pe_int (nomark _))
        (pss_one (ps_ret (pe_tup (pa_cons (pe_lst (pa_cons pe_str (pa_cons (pe_c c_law_number hr (by decide) (by rfl) (pa_cons (pv 0) (pa_cons (pv 7) pa_nil))) pa_nil))) (pa_cons (pe_lst pa_nil) pa_nil)))))
        pss_nil)
      (pss_cons (ps_if (pt_cmpR op_eq (pv 5) pe_int (nomark _))
        (pss_one (ps_ret (pe_tup (pa_cons (pe_lst (pa_cons pe_str (pa_cons (pe_callTy call_str_int (by rfl) T.f_str (by decide +kernel) (pa_cons (pv 6) pa_nil)) pa_nil))) (pa_cons (pe_op op_rep (pe_lst (pa_cons pe_int pa_nil)) (pv 6)) pa_nil)))))
        pss_nil)
      (pss_cons (ps_if (pt_cmpR op_eq (pv 5) pe_int (nomark _))
        (pss_one (ps_ret (pe_tup (pa_cons (pe_lst (pa_cons pe_str (pa_cons (pe_op op_add_str (pe_op op_add_str pe_str (pv 6)) pe_str) pa_nil))) (pa_cons (pe_lc (own := [("_law_sign", 15)]) (g := gName 15) (tt := tYes) rfl sc_law_line.nd (pi_str (pv 6)) (blkOk_by (own := [("_law_sign", 15)]) (N := N_law_line) (sc := defScope s_law_line) (by decide +kernel)) (fun _ _ _ _ _ => pg_name (i := 15) sc_law_line.nd rfl (Or.inl rfl)) (fun _ _ _ _ _ => pts_nil) (fun _ _ _ _ _ => (pe_callB call_ord (by rfl) T.f_ord (by decide +kernel) (pa_cons (pv 15) pa_nil)))) pa_nil)))))
        pss_nil)
      (pss_cons (ps_set (i := 8) sc_law_line.nd rfl (Or.inl rfl) (pe_c c_law_draw hr (by decide) (by rfl) (pa_cons (pv 0) (pa_cons pe_int pa_nil))))
      (pss_cons (ps_if (pt_cmpR op_eq (pv 5) pe_int (nomark _))
        (pss_cons (ps_par (i := 9) (j := 10) (by rfl) sc_law_line.nd rfl rfl (by decide) rfl rfl (pa_cons (pe_lst (pa_cons pe_str pa_nil)) (pa_cons (pe_lst pa_nil) pa_nil)) (by rfl))
        (pss_cons (ps_for PassesOwn.never rfl (pi_range1 rfl T.f_range (pa_cons (pv 6) pa_nil)) (pg_name (i := 3) sc_law_line.nd rfl (Or.inl rfl))
          (pss_cons (ps_asg (pe_c c_law_value hr (by decide) (by rfl) (pa_cons (pv 0) (pa_cons (pv 2) pa_nil))) (pg_tup rfl (pgs_cons (pg_name (i := 11) sc_law_line.nd rfl (Or.inl rfl)) (pgs_cons (pg_name (i := 12) sc_law_line.nd rfl (Or.inl rfl)) pgs_nil))))
          (pss_cons (ps_expr (pe_bm PySem.F.plainAttrs_list PySem.F.slot_list_append PySem.F.type_list_append mt_append (pv 9) (pa_cons (pv 11) pa_nil)))
          (pss_one (ps_expr (pe_bm PySem.F.plainAttrs_list PySem.F.slot_list_append PySem.F.type_list_append mt_append (pv 10) (pa_cons (pe_op op_mod (pv 12) pe_int) pa_nil)))))))
        (pss_one (ps_ret (pe_tup (pa_cons (pv 9) (pa_cons (pv 10) pa_nil)))))))
        pss_nil)
      (pss_cons (ps_if (pt_cmpR op_eq (pv 5) pe_int (nomark _))
        (pss_cons (ps_asg (pe_c c_law_value hr (by decide) (by rfl) (pa_cons (pv 0) (pa_cons (pv 2) pa_nil))) (pg_tup rfl (pgs_cons (pg_name (i := 11) sc_law_line.nd rfl (Or.inl rfl)) (pgs_cons (pg_name (i := 12) sc_law_line.nd rfl (Or.inl rfl)) pgs_nil))))
        (pss_cons (ps_set (i := 12) sc_law_line.nd rfl (Or.inl rfl) (pe_op op_mod (pv 12) pe_int))
        (pss_cons (ps_par (i := 13) (j := 14) (by rfl) sc_law_line.nd rfl rfl (by decide) rfl rfl (pa_cons (pe_tup (pa_cons pe_str (pa_cons (pv 8) (pa_cons (pe_op op_mod (pv 12) pe_int) pa_nil)))) (pa_cons (pe_tup (pa_cons pe_str (pa_cons (pv 8) (pa_cons (pe_op op_fdiv (pv 12) pe_int) pa_nil)))) pa_nil)) (by rfl))
        (pss_one (ps_ret (pe_tup (pa_cons (pe_lst (pa_cons pe_str (pa_cons (pe_op op_add_str pe_str (pe_callTy call_str_int (by rfl) T.f_str (by decide +kernel) (pa_cons (pv 8) pa_nil))) (pa_cons (pv 11) pa_nil)))) (pa_cons (pe_lst (pa_cons (pe_c c_law_word hr (by decide) (by rfl) (pa_cons (pv 13) pa_nil)) (pa_cons (pe_c c_law_word hr (by decide) (by rfl) (pa_cons (pv 14) pa_nil)) pa_nil))) pa_nil))))))))
        pss_nil)
      (pss_one (ps_ret (pe_c c_law_deed hr (by decide) (by rfl) (pa_cons (pv 0) (pa_cons (pv 1) (pa_cons (pv 2) (pa_cons (pv 8) pa_nil))))))))))))))), ?_⟩
    have Dnp : D ≠ p := fun z => by
      obtain ⟨_, _, e, _⟩ := hp
      rw [z, e] at eD
      cases eD
    have deep : ∀ {H6 : Hp} {x : Addr}, Keep [p] H H6 → PotOk H6 p → H6 x = none → H x = none := fun {H6} {x} k hp6 hx => fresh_keep k (fun m => by
      have e : x = p := by simpa using m
      obtain ⟨_, _, e2, _⟩ := hp6
      rw [e, e2] at hx
      cases hx) hx
    have pne : ∀ {H6 : Hp} {x : Addr}, PotOk H6 p → H6 x = none → x ≠ p := fun {H6} {x} hp6 hx z => by
      obtain ⟨_, _, e2, _⟩ := hp6
      rw [z, e2] at hx
      cases hx
    have fin : ∀ (H5 : Hp) (a b r : Addr) (ws : List (List Nat)) (ml : List Int), Keep [p] H H5 → PotOk H5 p → H a = none → H5 a = some (.lst (ws.map strV)) → H b = none → H5 b = some (.lst (ml.map V.int)) → LineT tl t it.place it.kind ws ml → H5 r = none → Q (.ref r) (upd H5 r (.tup [.ref a, .ref b])) := fun H5 a b r ws ml k5 hp5 na ea nb eb hL nr => by
      generalize hH2 : upd H5 r _ = H7
      have s7 := new_same hH2 nr
      exact q H7 r ws ml (k5.trans (Keep.of_same s7)) (hp5.same s7) (deep k5 hp5 nr) ⟨a, b, new_at hH2, na, nb, s7 _ _ ea, s7 _ _ eb⟩ hL
    refine ⟨_, rfl, a0, _, rfl, .inl (.inl ea), rfl, _, _, rfl, _, _, rfl, _, _, rfl, _, _, rfl, rfl, ?_⟩
    refine ⟨_, rfl, rfl, _, rfl, ?_⟩
    by_cases h0 : ∀ n, it.kind ≠ .con n
    rotate_left
    · obtain ⟨n, e⟩ : ∃ n, it.kind = .con n := Classical.byContradiction fun z => h0 fun n e => z ⟨n, e⟩
      have hs : it.kind.sort = 0 := by rw [e]; rfl
      rw [e] at hm hk
      obtain rfl : vm = .int (n : Int) := hm
      refine iteDT (by rw [hs]; rfl) ?_
      refine ⟨_, rfl, _, rfl, log2_few (by omega), _, _, rfl, rfl, ?_, ?_⟩
      · have := numT_short (k := (t : Int)) (by omega) (by omega)
        have h1 : ("c" : Str).length = 1 := by decide +kernel
        exact sz (by omega)
      rw [str_c, pre_text]
      refine ⟨_, rfl, _, rfl, p, n, rfl, hp, by have := hk.2; omega, fun H1 s1 k1 hp1 hs1 => ?_⟩
      refine ⟨sz (by show 3 ≤ 1000000; decide), fun a na => ?_⟩
      generalize hH1 : upd _ a _ = H2
      have s2 := new_same hH1 na
      have e2 := new_at hH1
      refine ⟨Nat.zero_le _, fun b nb => ?_⟩
      generalize hH2 : upd _ b _ = H3
      have s3 := new_same hH2 nb
      have e3 := new_at hH2
      have k3 := k1.trans (Keep.of_same (s2.trans s3))
      refine ⟨sz (by show 2 ≤ 1000000; decide), fun r nr => fin H3 a b r [nmC t, [61], s1] [] k3 (hp1.same (s2.trans s3)) (deep k1 hp1 na) ?_ (deep k1 hp1 (s2.free nb)) e3 (by rw [e]; exact .con hs1) nr⟩
      rw [s3 _ _ e2, str_eqs]
      rfl
    by_cases h1 : it.kind = .at_
    · have e := h1
      have hs : it.kind.sort = 1 := by rw [e]; rfl
      refine iteDF (fun z => by have := V.int.inj z; omega) ⟨_, rfl, rfl, _, rfl, ?_⟩
      refine iteDT (by rw [hs]; rfl) ?_
      refine ⟨_, rfl, _, rfl, p, it.place, rfl, hp, by omega, fun H1 s1 k1 hp1 hs1 => ?_⟩
      refine ⟨sz (by show 2 ≤ 1000000; decide), fun a na => ?_⟩
      generalize hH1 : upd _ a _ = H2
      have s2 := new_same hH1 na
      have e2 := new_at hH1
      refine ⟨Nat.zero_le _, fun b nb => ?_⟩
      generalize hH2 : upd _ b _ = H3
      have s3 := new_same hH2 nb
      have e3 := new_at hH2
      have k3 := k1.trans (Keep.of_same (s2.trans s3))
      refine ⟨sz (by show 2 ≤ 1000000; decide), fun r nr => fin H3 a b r [cl ".at", s1] [] k3 (hp1.same (s2.trans s3)) (deep k1 hp1 na) ?_ (deep k1 hp1 (s2.free nb)) e3 (by rw [e]; exact .at_ hs1) nr⟩
      rw [s3 _ _ e2]
      show _ = some (HO.lst [.str (S (cl ".at")), .str (S s1)])
      rw [S_cl]
    by_cases h2 : ∀ n, it.kind ≠ .space n
    rotate_left
    · obtain ⟨n, e⟩ : ∃ n, it.kind = .space n := Classical.byContradiction fun z => h2 fun n e => z ⟨n, e⟩
      have hs : it.kind.sort = 2 := by rw [e]; rfl
      rw [e] at hm hk
      obtain rfl : vm = .int (n : Int) := hm
      have hn4 : n < 4 := hk
      refine iteDF (fun z => by have := V.int.inj z; omega) ⟨_, rfl, rfl, _, rfl, ?_⟩
      refine iteDF (fun z => by have := V.int.inj z; omega) ⟨_, rfl, rfl, _, rfl, ?_⟩
      refine iteDT (by rw [hs]; rfl) ?_
      refine ⟨_, rfl, _, rfl, log2_few (by omega), sz (by show 2 ≤ 1000000; decide), fun a na => ?_⟩
      generalize hH1 : upd _ a _ = H2
      have s2 := new_same hH1 na
      have e2 := new_at hH1
      refine ⟨sz (by show 1 ≤ 1000000; decide), fun c nc => ?_⟩
      generalize hH2 : upd _ c _ = H3
      have s3 := new_same hH2 nc
      have e3 := new_at hH2
      refine ⟨_, rfl, c, (n : Int), _, rfl, rfl, e3, by omega, by omega, sz (by show 1 * _ ≤ _; rw [Int.toNat_natCast]; omega), fun b nb => ?_⟩
      rw [rep_zero]
      generalize hH3 : upd _ b _ = H4
      have s4 := new_same hH3 nb
      have e4 := new_at hH3
      have s24 := s2.trans (s3.trans s4)
      refine ⟨sz (by show 2 ≤ 1000000; decide), fun r nr => fin H4 a b r [cl ".space", numT (n : Int)] _ (Keep.of_same s24) (hp.same s24) na ?_ (s2.free (s3.free nb)) e4 (by rw [e]; exact .space) nr⟩
      rw [(s3.trans s4) _ _ e2]
      show _ = some (HO.lst [.str (S (cl ".space")), .str (S (cl (Str.ofString (toString (n : Int)))))])
      rw [S_cl, S_cl]
    by_cases h3 : ∀ n, it.kind ≠ .text n
    rotate_left
    · obtain ⟨s, e⟩ : ∃ s, it.kind = .text s := Classical.byContradiction fun z => h3 fun n e => z ⟨n, e⟩
      have hs : it.kind.sort = 3 := by rw [e]; rfl
      rw [e] at hm hk
      obtain rfl : vm = .str (S s) := hm
      have hs7 := texts_len s hk
      refine iteDF (fun z => by have := V.int.inj z; omega) ⟨_, rfl, rfl, _, rfl, ?_⟩
      refine iteDF (fun z => by have := V.int.inj z; omega) ⟨_, rfl, rfl, _, rfl, ?_⟩
      refine iteDF (fun z => by have := V.int.inj z; omega) ⟨_, rfl, rfl, _, rfl, ?_⟩
      refine iteDT (by rw [hs]; rfl) ?_
      have hq1 : ("\"" : Str).length = 1 := by decide +kernel
      have hsl := S_len s
      refine ⟨_, rfl, _, _, rfl, rfl, sz (by omega), ?_⟩
      have e1 : ("\"" : Str) ++ S s = S (34 :: s) := by
        rw [str_q]
        exact S_cat [34] s
      rw [e1]
      have hsl2 : (S (34 :: s)).length = s.length + 1 := by rw [S_len]; rfl
      refine ⟨_, _, rfl, rfl, sz (by omega), ?_⟩
      have e2 : S (34 :: s) ++ ("\"" : Str) = S (34 :: (s ++ [34])) := by
        rw [str_q]
        exact S_cat (34 :: s) [34]
      rw [e2]
      refine ⟨sz (by show 2 ≤ 1000000; decide), fun a na => ?_⟩
      generalize hH1 : upd _ a _ = H2
      have s2 := new_same hH1 na
      have e2 := new_at hH1
      refine ⟨_, rfl, _, rfl, fun b nb => ?_⟩
      refine lc_vals walk_str nb (by rw [List.size_toArray]; omega) (fun i => .int ((s.getD i 0 : Nat) : Int)) (fun _ _ => trivial) (fun i x H3 H4 C Cf hi s3 y k => ?_) (fun H3 s3 e3 => ?_)
      · obtain ⟨rfl, d, hd, rfl⟩ := y
        have ed : d = s.getD i 0 := cps_at hd
        refine ⟨rfl, yes_in ⟨_, rfl, _, rfl, rfl, ?_⟩⟩
        have := k _ (Same.refl _)
        rw [← ed] at this
        exact this
      · rw [List.size_toArray] at e3
        have e4 : H3 b = some (.lst ((s.map fun c : Nat => (c : Int)).map V.int)) := by
          rw [e3]
          exact congrArg (fun z => some (HO.lst z)) ((range_map s (fun c : Nat => V.int (c : Int)) 0).trans (by simp [List.map_map, Function.comp_def]))
        have s23 := s2.trans s3
        refine ⟨sz (by show 2 ≤ 1000000; decide), fun r nr => fin H3 a b r [cl ".text", 34 :: (s ++ [34])] _ (Keep.of_same s23) (hp.same s23) na ?_ (s2.free nb) e4 (by rw [e]; exact .text) nr⟩
        rw [s3 _ _ e2]
        show _ = some (HO.lst [.str (S (cl ".text")), .str (S (34 :: (s ++ [34])))])
        rw [S_cl]
    by_cases h4 : ∀ n, it.kind ≠ .word n
    rotate_left
    · obtain ⟨n, e⟩ : ∃ n, it.kind = .word n := Classical.byContradiction fun z => h4 fun n e => z ⟨n, e⟩
      have hs : it.kind.sort = 4 := by rw [e]; rfl
      rw [e] at hm hk
      obtain rfl : vm = .int (n : Int) := hm
      have hn3 : n ≤ 3 := hk.2
      refine iteDF (fun z => by have := V.int.inj z; omega) ⟨_, rfl, rfl, _, rfl, ?_⟩
      refine iteDF (fun z => by have := V.int.inj z; omega) ⟨_, rfl, rfl, _, rfl, ?_⟩
      refine iteDF (fun z => by have := V.int.inj z; omega) ⟨_, rfl, rfl, _, rfl, ?_⟩
      refine iteDF (fun z => by have := V.int.inj z; omega) ⟨_, rfl, p, 8, rfl, hp, by decide, by decide, fun d H1 hd k1 hp1 => ⟨_, rfl, rfl, _, rfl, ?_⟩⟩
      refine iteDT (by rw [hs]; rfl) ?_
      have up : ∀ {x : Addr} {H6 : Hp}, PotOk H6 p → H6 x = none → x ≠ D → True := fun _ _ _ => trivial
      refine ⟨sz (by show 1 ≤ 1000000; decide), fun W nW => ?_⟩
      generalize hHW : upd _ W _ = H2
      have s2 := new_same hHW nW
      have eW : H2 W = some (.lst [.str ".word"]) := new_at hHW
      refine ⟨Nat.zero_le _, fun Lb nL => ?_⟩
      generalize hHL : upd _ Lb _ = H3
      have s3 := new_same hHL nL
      have eL : H3 Lb = some (.lst []) := new_at hHL
      have k03 : Keep [p] H H3 := k1.trans (Keep.of_same (s2.trans s3))
      have Wp := pne hp1 nW
      have Lp := pne (hp1.same s2) nL
      have WL : W ≠ Lb := fun z => by rw [← z, eW] at nL; cases nL
      have eD1 := k1.one Dnp eD
      have DW : D ≠ W := fun z => by rw [← z, eD1] at nW; cases nW
      have DL : D ≠ Lb := fun z => by rw [← z, s2 _ _ eD1] at nL; cases nL
      have eD3 := k03.one Dnp eD
      refine ⟨_, _, rfl, _, rfl, _, rfl, by omega, by omega, ?_⟩
      refine for_it (walk_range (lo := 0) (n := n)) (WLoopI p a0 D W Lb tl H H3 n (some (labV t it.lab)) (some (.int (it.kind.sort : Int))) (some (.int (n : Int))) (some (.int (it.place : Int))) (some (.int (d : Int)))) ⟨[], [], some (.int (t : Int)), none, none, rfl, Keep.refl _ _, hp1.same (s2.trans s3), rfl, .nil, ?_, eL⟩ (fun _ _ _ _ _ => trivial) (fun i v σ H40 H4 hi h y => ?_) (fun σ H4 h => ?_)
      · rw [s3 _ _ eW]
        show _ = some (HO.lst [.str (S (cl ".word"))])
        rw [S_cl]
      · obtain ⟨ss, ks, y3, y11, y12, rfl, k4, hp4, hsl, hpr, eW4, eL4⟩ := h
        obtain ⟨rfl, rfl⟩ := y
        have eD4 := k4 D _ (by simp [Dnp, DW, DL]) eD3
        refine ⟨_, rfl, _, rfl, p, D, tl, rfl, hp4, eD4, htl, hok.1, fun z hz => goodW_len (hok.good z hz), fun H5 tt sx k k5 hp5 ntt ett hv => ?_⟩
        have hkl := paired_len hpr
        have eW5 := k5.one Wp eW4
        have eL5 := k5.one Lp eL4
        refine ⟨tt, _, rfl, .inl (.inl ett), rfl, _, _, rfl, _, _, rfl, rfl, ?_⟩
        refine ⟨_, rfl, .inl ⟨rfl, _, .inl (.inl eW5)⟩, _, rfl, W, _, _, rfl, rfl, eW5, szl (by rw [List.length_map, List.length_cons]; omega), ?_⟩
        generalize hH6 : upd H5 W _ = H6
        have k6 : Keep [W] H5 H6 := by rw [← hH6]; exact Keep.put (by simp)
        have eW6 := new_at hH6
        have eL6 := k6.one (fun z => WL z.symm) eL5
        refine ⟨_, rfl, .inl ⟨rfl, _, .inl (.inl eL6)⟩, _, rfl, _, _, rfl, rfl, by show (0 : Int) < 65536; decide, Lb, _, _, rfl, rfl, eL6, szl (by rw [List.length_map, List.length_map]; omega), ?_⟩
        generalize hH7 : upd H6 Lb _ = H7
        have k7 : Keep [Lb] H6 H7 := by rw [← hH7]; exact Keep.put (by simp)
        have eL7 := new_at hH7
        refine ⟨ss ++ [sx], ks ++ [k], _, _, _, rfl, k4.trans ((k5.mono (by simp)).trans ((k6.mono (by simp)).trans (k7.mono (by simp)))), (hp5.keep k6 (by simp; exact fun z => Wp z.symm)).keep k7 (by simp; exact fun z => Lp z.symm), by simp [hsl], paired_snoc hpr hv, ?_, ?_⟩
        · rw [k7.one WL eW6]
          simp [strV]
        · rw [eL7]
          simp
      · obtain ⟨ss, ks, y3, y11, y12, rfl, k4, hp4, hsl, hpr, eW4, eL4⟩ := h
        have kA : Keep [p] H H4 := fun b o hb hz => by
          have z1 := k1 b o hb hz
          have bW : b ≠ W := ne_of_none z1 nW
          have bL : b ≠ Lb := ne_of_none (s2 _ _ z1) nL
          exact k4 b o (by simp [bW, bL]; simpa using hb) (s3 _ _ (s2 _ _ z1))
        refine ⟨_, rfl, _, rfl, sz (by show 2 ≤ 1000000; decide), fun r nr => ?_⟩
        exact fin H4 W Lb r (cl ".word" :: ss) _ kA hp4 (deep k1 hp1 nW) eW4 (deep k1 hp1 (s2.free nL)) eL4 (by rw [e]; exact .word hsl hpr) nr
    by_cases h5 : it.kind = .set
    · have e := h5
      have hs : it.kind.sort = 5 := by rw [e]; rfl
      refine iteDF (fun z => by have := V.int.inj z; omega) ⟨_, rfl, rfl, _, rfl, ?_⟩
      refine iteDF (fun z => by have := V.int.inj z; omega) ⟨_, rfl, rfl, _, rfl, ?_⟩
      refine iteDF (fun z => by have := V.int.inj z; omega) ⟨_, rfl, rfl, _, rfl, ?_⟩
      refine iteDF (fun z => by have := V.int.inj z; omega) ⟨_, rfl, p, 8, rfl, hp, by decide, by decide, fun d H1 hd k1 hp1 => ⟨_, rfl, rfl, _, rfl, ?_⟩⟩
      refine iteDF (fun z => by have := V.int.inj z; omega) ⟨_, rfl, rfl, _, rfl, ?_⟩
      refine iteDT (by rw [hs]; rfl) ?_
      refine ⟨_, rfl, _, rfl, p, D, tl, rfl, hp1, k1.one Dnp eD, htl, hok.1, fun z hz => goodW_len (hok.good z hz), fun H2 tt sx k k2 hp2 ntt ett hv => ?_⟩
      have k02 := k1.trans k2
      refine ⟨tt, _, rfl, .inl (.inl ett), rfl, _, _, rfl, _, _, rfl, rfl, ?_⟩
      refine ⟨_, rfl, _, _, rfl, rfl, by show (0 : Int) < 65536; decide, ?_⟩
      have b1 : 0 ≤ k % 65536 % 256 ∧ k % 65536 % 256 ≤ 255 := by omega
      have b2 : 0 ≤ k % 65536 / 256 ∧ k % 65536 / 256 ≤ 255 := by omega
      obtain ⟨w1, hw1⟩ := (lim_ok hd b1.1 b1.2).word
      obtain ⟨w2, hw2⟩ := (lhi_ok hd b2.1 b2.2).word
      refine ⟨_, rfl, _, rfl, _, _, rfl, rfl, by show (0 : Int) < 256; decide, sz (by show 3 ≤ 1000000; decide), fun u nu => ?_⟩
      generalize hH3 : upd _ u _ = H3
      have s3 := new_same hH3 nu
      have e3 : InsAt H3 u "lim" [d] [k % 65536 % 256] := new_at hH3
      refine ⟨_, rfl, _, rfl, _, _, rfl, rfl, ⟨by decide, by decide⟩, sz (by show 3 ≤ 1000000; decide), fun u2 nu2 => ?_⟩
      generalize hH4 : upd _ u2 _ = H4
      have s4 := new_same hH4 nu2
      have e4 : InsAt H4 u2 "lhi" [d] [k % 65536 / 256] := new_at hH4
      have regt := reg_len hd
      have hr1 : ("r" : Str).length = 1 := by decide +kernel
      refine ⟨_, _, rfl, ?_⟩
      refine ⟨_, rfl, _, rfl, log2_few (by omega), _, _, rfl, rfl, sz (by omega), ?_⟩
      rw [reg_text hd]
      refine ⟨_, rfl, sz (by show 3 ≤ 1000000; decide), fun a na => ?_⟩
      generalize hH5 : upd _ a _ = H5
      have s5 := new_same hH5 na
      have e5 := new_at hH5
      refine ⟨_, rfl, u, _, _, _, w1, rfl, s5 _ _ (s4 _ _ e3), hw1, fun H6 s6 => ?_⟩
      refine ⟨_, rfl, u2, _, _, _, w2, rfl, s6 _ _ (s5 _ _ e4), hw2, fun H7 s7 => ?_⟩
      refine ⟨sz (by show 2 ≤ 1000000; decide), fun b nb => ?_⟩
      generalize hH8 : upd _ b _ = H8
      have s8 := new_same hH8 nb
      have e8 := new_at hH8
      have s34 := s3.trans s4
      have s48 := s5.trans (s6.trans (s7.trans s8))
      have kA := k02.trans (Keep.of_same (s34.trans s48))
      have hpA := hp2.same (s34.trans s48)
      refine ⟨sz (by show 2 ≤ 1000000; decide), fun r nr => fin H8 a b r [cl "set", regW d, sx] [w1, w2] kA hpA (deep k02 hp2 (s34.free na)) ?_ (deep k02 hp2 (s34.free (s5.free (s6.free (s7.free nb))))) e8 (by rw [e]; exact .set hd hv hw1 hw2) nr⟩
      rw [(s6.trans (s7.trans s8)) _ _ e5]
      show _ = some (HO.lst [.str (S (cl "set")), .str (S (regW d)), .str (S sx)])
      rw [S_cl]
    have hs : 6 ≤ it.kind.sort := by
      cases e : it.kind with
      | ins s n r i => rw [e] at hk; have := hk.1; show 6 ≤ s; omega
      | six => show 6 ≤ 6; decide
      | seven => show 6 ≤ 7; decide
      | con n => exact absurd e (h0 n)
      | at_ => exact absurd e h1
      | space n => exact absurd e (h2 n)
      | text s => exact absurd e (h3 s)
      | word n => exact absurd e (h4 n)
      | set => exact absurd e h5
    refine iteDF (fun z => by have := V.int.inj z; omega) ⟨_, rfl, rfl, _, rfl, ?_⟩
    refine iteDF (fun z => by have := V.int.inj z; omega) ⟨_, rfl, rfl, _, rfl, ?_⟩
    refine iteDF (fun z => by have := V.int.inj z; omega) ⟨_, rfl, rfl, _, rfl, ?_⟩
    refine iteDF (fun z => by have := V.int.inj z; omega) ⟨_, rfl, p, 8, rfl, hp, by decide, by decide, fun d H1 hd k1 hp1 => ⟨_, rfl, rfl, _, rfl, ?_⟩⟩
    refine iteDF (fun z => by have := V.int.inj z; omega) ⟨_, rfl, rfl, _, rfl, ?_⟩
    refine iteDF (fun z => by have := V.int.inj z; omega) ?_
    have np : NoTup [p] H := fun a ha xs e => by
      have : a = p := by simpa using ha
      obtain ⟨_, _, e2, _⟩ := hp
      rw [this, e2] at e
      cases e
    refine ⟨_, rfl, _, rfl, _, rfl, _, rfl, p, a0, D, tl, t, d, it, vm, rfl, hp1, ap, k1.one ap ea, hm.keep np k1, hk, hs, hd, k1.one Dnp eD, htl, hok, hpl, fun H2 r ws ml k2 hp2 nr hV hL => ?_⟩
    refine q H2 r ws ml (k1.trans k2) hp2 (deep k1 hp1 nr) ?_ hL
    obtain ⟨a, b, f1, f2, f3, f4, f5⟩ := hV
    exact ⟨a, b, f1, deep k1 hp1 f2, deep k1 hp1 f3, f4, f5⟩
end
end K21
/-! ## K21Spr -/
set_option Elab.async false
set_option linter.all false
set_option maxRecDepth 100000
set_option maxHeartbeats 4000000
namespace K21
open PySem PySem.Spec PyProof.Rows L2
/-! how the words of a line are laid out, and laid out again more plainly -/
def Vis (c : Nat) : Prop := 32 ≤ c ∧ c < 127
def Spread (ws : List (List Nat)) (l : List Nat) : Prop := Toks l ws ∧ l.length ≤ 5000 ∧ ∀ c ∈ l, Vis c
theorem toks_nil {ws : List (List Nat)} (h : Toks [] ws) : ws = [] := by
  generalize hl : ([] : List Nat) = l at h
  cases h with
  | nil => rfl
  | rem r => cases hl
  | sp _ => cases hl
  | word hw _ _ =>
    exfalso
    have := congrArg List.length hl
    rw [List.length_append] at this
    rcases hw with ⟨h1, _⟩ | ⟨b, h1, _⟩
    · have := List.length_pos_iff.mpr h1
      simp at *
      omega
    · rw [h1] at this
      simp at this
      omega
theorem tw_word {w r : List Nat} (h : ∀ c ∈ w, c ≠ 59) : (w ++ r).takeWhile (fun c => decide (c ≠ 59)) = w ++ r.takeWhile fun c => decide (c ≠ 59) := by
  induction w with
  | nil => rfl
  | cons c w ih =>
    show ((c :: (w ++ r)).takeWhile _) = c :: (w ++ _)
    rw [List.takeWhile_cons, if_pos (by exact decide_eq_true (h c (by simp))), ih fun d hd => h d (List.mem_cons_of_mem _ hd)]
theorem space_no {c : Nat} (h1 : 32 < c) (h2 : c < 127) : Unicode.isSpace c = false := by
  have go : ∀ c : Fin 127, 32 < c.val → Unicode.isSpace c.val = false := by decide +kernel
  exact go ⟨c, h2⟩ h1
theorem space_32 : Unicode.isSpace 32 = true := by decide +kernel
theorem words_of {l : List Nat} {ws : List (List Nat)} (h : Toks l ws) : (34 ∉ l) → (∀ c ∈ l, Vis c) → ∀ acc, TL.wfin ((l.takeWhile fun c => decide (c ≠ 59)).foldl TL.wstep (acc, [])) = acc ++ ws := by
  have st : ∀ acc, TL.wstep (acc, []) 32 = (acc, []) := fun acc => (if_pos space_32).trans (if_pos rfl)
  induction h with
  | nil =>
    intro _ _ acc
    rw [List.append_nil]
    exact if_pos rfl
  | rem r =>
    intro _ _ acc
    rw [List.takeWhile_cons, if_neg (by decide), List.append_nil]
    exact if_pos rfl
  | @sp r ws _ ih =>
    intro hq hv acc
    rw [List.takeWhile_cons, if_pos (by decide), List.foldl_cons, st]
    exact ih (fun m => hq (List.mem_cons_of_mem _ m)) (fun c hc => hv c (List.mem_cons_of_mem _ hc)) acc
  | @word w r ws hw hs ht ih =>
    intro hq hv acc
    have hp : Plain w := by
      rcases hw with h | ⟨b, e, _⟩
      · exact h
      · exact absurd (by rw [e]; simp) hq
    have ih2 := ih (fun m => hq (List.mem_append_right _ m)) (fun c hc => hv c (List.mem_append_right _ hc)) (acc ++ [w])
    rw [tw_word fun c hc => (hp.2 c hc).2.1, List.foldl_append, TL.wfold_word w acc [] (fun c hc => by
      obtain ⟨h1, h2⟩ := hv c (List.mem_append_left _ hc)
      have := (hp.2 c hc).1
      exact space_no (by omega) h2), List.nil_append]
    have fw : TL.wfin (acc, w) = acc ++ [w] := if_neg hp.1
    rw [show acc ++ w :: ws = acc ++ [w] ++ ws by simp]
    rw [← ih2]
    rcases hs with rfl | ⟨r', rfl⟩ | ⟨r', rfl⟩
    · show TL.wfin (acc, w) = TL.wfin (acc ++ [w], [])
      rw [fw]
      exact (if_pos rfl).symm
    · rw [List.takeWhile_cons, if_pos (by decide), List.foldl_cons, List.foldl_cons, st]
      have e : TL.wstep (acc, w) 32 = (acc ++ [w], []) := (if_pos space_32).trans (if_neg hp.1)
      rw [e]
    · rw [List.takeWhile_cons, if_neg (by decide)]
      show TL.wfin (acc, w) = TL.wfin (acc ++ [w], [])
      rw [fw]
      exact (if_pos rfl).symm
theorem first_of : ∀ l : List Nat, 59 ∈ l → ∃ p r, l = p ++ 59 :: r ∧ 59 ∉ p
  | [], h => by cases h
  | a :: l, h => by
    by_cases ha : a = 59
    · exact ⟨[], l, by rw [ha]; rfl, by simp⟩
    · obtain ⟨p, r, e, hp⟩ := first_of l (by
        rcases List.mem_cons.mp h with z | z
        · exact absurd z.symm ha
        · exact z)
      refine ⟨a :: p, r, by rw [e]; rfl, fun m => ?_⟩
      rcases List.mem_cons.mp m with z | z
      · exact ha z.symm
      · exact hp z
theorem spl_head (l : List Nat) : ∃ rest, TL.spl [59] 0 [] l = (l.takeWhile fun c => decide (c ≠ 59)) :: rest := by
  by_cases h : 59 ∈ l
  · obtain ⟨p, r, e, hp⟩ := first_of l h
    subst e
    refine ⟨TL.spl [59] 0 [] r, ((TL.spl_part1 (S := []) (rest := r) (acc := []) hp).trans ?_)⟩
    rw [tw_word fun c hc z => hp (by rw [← z]; exact hc), List.takeWhile_cons, if_neg (by decide), List.append_nil, List.nil_append]
  · refine ⟨[], (TL.spl_last1 (S := []) (acc := []) h).trans ?_⟩
    rw [List.nil_append]
    have := tw_word (w := l) (r := []) fun c hc z => h (by rw [← z]; exact hc)
    rw [List.append_nil] at this
    rw [this]
    simp
def plainM (ws : List (List Nat)) (l : List Nat) : List Nat := if 34 ∈ l then l else TL.joinL [32] ws
theorem joinL_cons (w : List Nat) (ws : List (List Nat)) (h : ws ≠ []) : TL.joinL [32] (w :: ws) = w ++ 32 :: TL.joinL [32] ws := by
  cases ws with
  | nil => exact absurd rfl h
  | cons a r => rfl
theorem toks_join : ∀ {ws : List (List Nat)}, (∀ w ∈ ws, Plain w) → Toks (TL.joinL [32] ws) ws
  | [], _ => .nil
  | [w], h => by
    have := Toks.word (.inl (h w (by simp))) (.inl rfl) .nil
    rw [List.append_nil] at this
    exact this
  | w :: a :: r, h => by
    rw [joinL_cons w (a :: r) (by simp)]
    exact .word (.inl (h w (by simp))) (.inr (.inl ⟨_, rfl⟩)) (.sp (toks_join fun x hx => h x (List.mem_cons_of_mem _ hx)))
theorem toks_mem {l : List Nat} {ws : List (List Nat)} (h : Toks l ws) : ∀ w ∈ ws, (Plain w ∨ Quoted w) ∧ ∀ c ∈ w, c ∈ l := by
  induction h with
  | nil => intro w hw; cases hw
  | rem r => intro w hw; cases hw
  | sp _ ih =>
    intro w hw
    obtain ⟨h1, h2⟩ := ih w hw
    exact ⟨h1, fun c hc => List.mem_cons_of_mem _ (h2 c hc)⟩
  | word hw hs ht ih =>
    intro x hx
    rcases List.mem_cons.mp hx with rfl | hx
    · exact ⟨hw, fun c hc => List.mem_append_left _ hc⟩
    · obtain ⟨h1, h2⟩ := ih x hx
      exact ⟨h1, fun c hc => List.mem_append_right _ (h2 c hc)⟩
theorem joinL_mem {ws : List (List Nat)} {c : Nat} : c ∈ TL.joinL [32] ws → c = 32 ∨ ∃ w ∈ ws, c ∈ w := by
  induction ws with
  | nil => intro h; cases h
  | cons w ws ih =>
    intro h
    by_cases hw : ws = []
    · subst hw
      exact .inr ⟨w, by simp, h⟩
    · rw [joinL_cons w ws hw] at h
      rcases List.mem_append.mp h with h | h
      · exact .inr ⟨w, by simp, h⟩
      · rcases List.mem_cons.mp h with h | h
        · exact .inl h
        · rcases ih h with h | ⟨x, hx, hc⟩
          · exact .inl h
          · exact .inr ⟨x, List.mem_cons_of_mem _ hx, hc⟩
theorem plain_of {l : List Nat} {ws : List (List Nat)} (h : Toks l ws) (hq : 34 ∉ l) : ∀ w ∈ ws, Plain w := fun w hw => by
  obtain ⟨h1, h2⟩ := toks_mem h w hw
  rcases h1 with h1 | ⟨b, e, _⟩
  · exact h1
  · exact absurd (h2 34 (by rw [e]; simp)) hq
/-- the plainer line says the same -/
theorem Spread.plain {ws : List (List Nat)} {l : List Nat} (h : Spread ws l) (hl : (TL.joinL [32] ws).length ≤ 5000) : Spread ws (plainM ws l) := by
  unfold plainM
  by_cases hq : 34 ∈ l
  · rw [if_pos hq]
    exact h
  · rw [if_neg hq]
    refine ⟨toks_join (plain_of h.1 hq), hl, fun c hc => ?_⟩
    rcases joinL_mem hc with rfl | ⟨w, hw, hc⟩
    · exact ⟨by decide, by decide⟩
    · exact h.2.2 c ((toks_mem h.1 w hw).2 c hc)
theorem split_words {ws : List (List Nat)} {l : List Nat} (h : Spread ws l) (hq : 34 ∉ l) : ∃ z rest, Txt.split (S l) ";" = z :: rest ∧ z.length ≤ l.length ∧ Txt.words z = ws.map S := by
  obtain ⟨rest, e⟩ := spl_head l
  have e0 : (";" : Str) = S [59] := by decide +kernel
  refine ⟨S (l.takeWhile fun c => decide (c ≠ 59)), rest.map S, ?_, ?_, ?_⟩
  · rw [e0, SX.split_S (by decide) (by decide), e]
    rfl
  · rw [S_len]
    exact (List.takeWhile_sublist _).length_le
  · refine TL.map_tl_inj ?_
    rw [TL.words_tl]
    have := words_of h.1 hq h.2.2 []
    rw [List.nil_append] at this
    refine Eq.trans this ?_
    rw [List.map_map]
    exact (List.map_id' ws).symm
end K21
/-! ## XB -/
set_option Elab.async false
set_option linter.all false
set_option maxRecDepth 100000
set_option maxHeartbeats 4000000
namespace K21
open PySem PySem.Spec PyProof.Rows L2 C8
local macro_rules | `(tactic| walk_at "adv") => `(tactic| repeat (first | refine ⟨_, rfl, ?_⟩ | refine ⟨rfl, ?_⟩ | refine ⟨_, _, rfl, rfl, ?_⟩ | refine iteT ?_ | refine iteF ?_))

theorem sp3 {d : Nat} (h : d < 3) : ∃ sp : List Nat, (sp = [] ∨ sp = [32]) ∧ ([.str "", .str "", .str " "] : List V)[d]? = some (.str (S sp)) := by
  match d, h with
  | 0, _ => exact ⟨[], .inl rfl, by rw [← str_e]; rfl⟩
  | 1, _ => exact ⟨[], .inl rfl, by rw [← str_e]; rfl⟩
  | 2, _ => exact ⟨[32], .inr rfl, by rw [← str_sp]; rfl⟩
def tails : List (List Nat) := [[], [32, 59, 32, 120, 58, 32, 49], [59]]
theorem str_tail : (" ; x: 1" : Str) = S [32, 59, 32, 120, 58, 32, 49] := by decide +kernel
theorem tail4 {d : Nat} (h : d < 4) : ∃ tl ∈ tails, ([.str "", .str "", .str " ; x: 1", .str ";"] : List V)[d]? = some (.str (S tl)) := by
  match d, h with
  | 0, _ => exact ⟨[], by simp [tails], by rw [← str_e]; rfl⟩
  | 1, _ => exact ⟨[], by simp [tails], by rw [← str_e]; rfl⟩
  | 2, _ => exact ⟨[32, 59, 32, 120, 58, 32, 49], by simp [tails], by rw [← str_tail]; rfl⟩
  | 3, _ => exact ⟨[59], by simp [tails], by rw [← str_sc]; rfl⟩
theorem tail_ok : ∀ tl ∈ tails, Stop tl ∧ Toks tl [] ∧ tl.length ≤ 10 ∧ ∀ c ∈ tl, Vis c := by
  intro tl h
  have h' : tl = [] ∨ tl = [32, 59, 32, 120, 58, 32, 49] ∨ tl = [59] := by simpa [tails] using h
  rcases h' with rfl | rfl | rfl
  · exact ⟨.inl rfl, .nil, by decide, fun c hc => by cases hc⟩
  · refine ⟨.inr (.inl ⟨_, rfl⟩), .sp (.rem _), by decide, fun c hc => ?_⟩
    have go : ∀ c ∈ [32, 59, 32, 120, 58, 32, 49], 32 ≤ c ∧ c < 127 := by decide
    exact go c hc
  · refine ⟨.inr (.inr ⟨_, rfl⟩), .rem _, by decide, fun c hc => ?_⟩
    rw [List.mem_singleton] at hc
    rw [hc]
    exact ⟨by decide, by decide⟩
theorem toks_sum {l : List Nat} {ws : List (List Nat)} (h : Toks l ws) : (ws.map List.length).sum ≤ l.length := by
  induction h with
  | nil => exact Nat.le_refl _
  | rem r => exact Nat.zero_le _
  | sp _ ih => rw [List.length_cons]; omega
  | word hw hs ht ih => rw [List.map_cons, List.sum_cons, List.length_append]; omega
def PlnI (L F : Addr) (ls : List (List (List Nat) × List Nat)) (H1 : Hp) (i : Nat) (σ : L2.St) (H : Hp) : Prop := ∃ y2 y3 : Option V, σ = [some (.ref L), some (.ref F), y2, y3] ∧ Keep [F] H1 H ∧ H F = some (.lst ((ls.take i).map fun d => strV (plainM d.1 d.2)))
theorem sp_toks {sp r : List Nat} {ws : List (List Nat)} (h : sp = [] ∨ sp = [32]) (k : Toks r ws) : Toks (sp ++ r) ws := by
  rcases h with rfl | rfl
  · exact k
  · exact .sp k
theorem sp_stop {sp r : List Nat} (h : sp = [] ∨ sp = [32]) (k : Stop r) : Stop (sp ++ r) := by
  rcases h with rfl | rfl
  · exact k
  · exact .inr (.inl ⟨_, rfl⟩)
theorem sp_vis {sp : List Nat} (h : sp = [] ∨ sp = [32]) : (∀ c ∈ sp, Vis c) ∧ sp.length ≤ 1 := by
  rcases h with rfl | rfl
  · exact ⟨fun c hc => (by cases hc), by decide⟩
  · refine ⟨fun c hc => ?_, by decide⟩
    rw [List.mem_singleton] at hc
    rw [hc]
    exact ⟨by decide, by decide⟩
def SprI (p L : Addr) (ws : List (List Nat)) (H0 : Hp) (m : Nat) (σ : L2.St) (H : Hp) : Prop := ∃ (f : List Nat) (y3 y4 : Option V), σ = [some (.ref p), some (.ref L), some (.str (S f)), y3, y4] ∧ Keep [p] H0 H ∧ PotOk H p ∧ f.length ≤ 1 + 102 * m ∧ (∀ c ∈ f, Vis c) ∧
  (m = 0 → ∀ r ws2, Toks r ws2 → Toks (f ++ r) ws2) ∧ (0 < m → ∀ r ws2, Stop r → Toks r ws2 → Toks (f ++ r) (ws.take m ++ ws2))

section
variable {P : Program} {w : World} {K : PySem.W.Frag} {mg : Str → Option Value} {base : Heap}
abbrev N_law_spread : List Str := ["_law_pot_here", "_law_words", "_law_found", "_law_at", "_law_word_here"]
theorem sc_law_spread : FnScope N_law_spread ["_law_pot_here", "_law_words"] (defScope s_law_spread) := ⟨rfl, rfl, rfl, by decide +kernel, rfl, by decide +kernel, by decide +kernel⟩
def sp_law_spread : Sp := fun vs H Q _ => ∃ (p L : Addr) (ws : List (List Nat)), vs = [.ref p, .ref L] ∧ PotOk H p ∧ L ≠ p ∧ H L = some (.lst (ws.map strV)) ∧ ws.length ≤ 30 ∧ (∀ w ∈ ws, (Plain w ∨ Quoted w) ∧ w.length ≤ 100 ∧ ∀ c ∈ w, Vis c) ∧ ∀ H' l, Keep [p] H H' → PotOk H' p → Spread ws l → Q (.str (S l)) H'
theorem cal_law_spread (T : Tx w K mg) : C8.Cal P w K mg base 2 "_law_spread" sp_law_spread [] := by
  have c_law_draw := cal_law_draw (P := P) (base := base) T
  refine cal_of (st := s_law_spread) (ps := ["_law_pot_here", "_law_words"]) T.d_law_spread T.m_law_spread sc_law_spread (fun _ _ _ _ _ _ us hl => match us, hl with | [_, _], _ => rfl) (fun vs H Q E h => ?_) (fun cdv A outer s H vs Q E hr h => ?_)
  · obtain ⟨p, L, ws, rfl, _⟩ := h
    rfl
  · obtain ⟨p, L, ws, rfl, hp, Lp, eL, hn, hw, q⟩ := h
    refine ⟨_, (pss_cons (ps_set (i := 2) sc_law_spread.nd rfl (Or.inl rfl) (pe_ix ix_list (pe_lst (pa_cons pe_str (pa_cons pe_str (pa_cons pe_str pa_nil)))) (pe_c c_law_draw hr (by decide) (by rfl) (pa_cons (pv 0) (pa_cons pe_int pa_nil))) (fun _ _ => rfl)))
      (pss_cons (ps_for PassesOwn.never rfl (pi_enum (by rfl) T.f_enumerate (pa_cons (pv 1) pa_nil)) (pg_tup rfl (pgs_cons (pg_name (i := 3) sc_law_spread.nd rfl (Or.inl rfl)) (pgs_cons (pg_name (i := 4) sc_law_spread.nd rfl (Or.inl rfl)) pgs_nil)))
        (pss_one (ps_set (i := 2) sc_law_spread.nd rfl (Or.inl rfl) (pe_op op_add_str (pe_op op_add_str (pe_op op_add_str (pv 2) (pe_ifExp (pt_cmpR op_gt (pv 3) pe_int (nomark _)) pe_str pe_str)) (pv 4)) (pe_ix ix_list (pe_lst (pa_cons pe_str (pa_cons pe_str (pa_cons pe_str pa_nil)))) (pe_c c_law_draw hr (by decide) (by rfl) (pa_cons (pv 0) (pa_cons pe_int pa_nil))) (fun _ _ => rfl))))))
      (pss_one (ps_ret (pe_op op_add_str (pv 2) (pe_ix ix_list (pe_lst (pa_cons pe_str (pa_cons pe_str (pa_cons pe_str (pa_cons pe_str pa_nil))))) (pe_c c_law_draw hr (by decide) (by rfl) (pa_cons (pv 0) (pa_cons pe_int pa_nil))) (fun _ _ => rfl))))))), ?_⟩
    have pne : ∀ {H6 : Hp} {x : Addr}, PotOk H6 p → H6 x = none → x ≠ p := fun {H6} {x} hp6 hx z => by
      obtain ⟨_, _, e2, _⟩ := hp6
      rw [z, e2] at hx
      cases hx
    refine ⟨sz (by show 3 ≤ 1000000; decide), fun u nu => ?_⟩
    generalize hH1 : upd _ u _ = H1
    have s1 := new_same hH1 nu
    have e1 := new_at hH1
    refine ⟨_, rfl, p, 3, rfl, hp.same s1, by decide, by decide, fun d H2 hd k2 hp2 => ?_⟩
    obtain ⟨sp, hsp, hx⟩ := sp3 hd
    refine ⟨u, _, _, _, rfl, rfl, .inl (.inl (k2.one (pne hp nu) e1)), atI_nat hx, ?_⟩
    obtain ⟨hv, hl1⟩ := sp_vis hsp
    have k02 : Keep [p] H H2 := (Keep.of_same s1).trans k2
    refine ⟨_, rfl, L, _, rfl, .inl (.inl (k02.one Lp eL)), ?_⟩
    refine for_it (walk_enum (xs := ws.map strV)) (SprI p L ws H) ⟨sp, none, none, rfl, k02, hp2, by omega, hv, fun _ r ws2 h => sp_toks hsp h, fun h => absurd h (by decide)⟩ (fun m σ H3 _ h => ?_) (fun m v σ H3 H4 hm h y => ?_) (fun σ H3 h => ?_)
    · obtain ⟨f, y3, y4, _, k3, _⟩ := h
      exact .inl (.inl (k3.one Lp eL))
    · obtain ⟨f, y3, y4, rfl, k3, hp3, hfl, hfv, ha, hb⟩ := h
      obtain ⟨tt, v1, v2, rfl, nt, rfl, h1, h2⟩ := y
      obtain rfl := Option.some.inj h1
      have h2' : (ws.map strV)[m]? = some v2 := h2
      rw [List.getElem?_map] at h2'
      obtain ⟨wd, hwd, rfl⟩ := Option.map_eq_some_iff.mp h2'
      have hm2 : m < ws.length := by rw [List.length_map] at hm; exact hm
      obtain ⟨hpq, hwl, hwv⟩ := hw wd (List.mem_of_getElem? hwd)
      have s4 : Same H3 (upd H3 tt (.tup [.int (m : Nat), strV wd])) := same_new nt
      refine ⟨tt, _, rfl, .inl (.inl upd_same), rfl, _, _, rfl, _, _, rfl, rfl, ?_⟩
      generalize upd H3 tt (.tup [.int (m : Nat), strV wd]) = H4 at s4
      obtain ⟨g, hg, hgt⟩ : ∃ g : List Nat, (g = [] ∧ m = 0 ∨ g = [32] ∧ 0 < m) ∧ ∀ (σ : L2.St) (C : V → Hp → Prop), σ[3]? = some (some (.int ((m : Nat) : Int))) → C (.str (S g)) H4 → tIf (tTest (tOp (rI0 fun i j => V.bl (decide (j < i))) (tVar 3) (tC (V.int 0)))) (tC (V.str " ")) (tC (V.str "")) σ H4 C := by
        by_cases h0 : 0 < m
        · refine ⟨[32], .inr ⟨rfl, h0⟩, fun σ C g1 hC => ⟨_, g1, _, _, rfl, rfl, _, rfl, iteDT (by omega) ?_⟩⟩
          rw [← str_sp] at hC
          exact hC
        · refine ⟨[], .inl ⟨rfl, by omega⟩, fun σ C g1 hC => ⟨_, g1, _, _, rfl, rfl, _, rfl, iteDF (by omega) ?_⟩⟩
          rw [← str_e] at hC
          exact hC
      have hgl : g.length ≤ 1 := by rcases hg with ⟨rfl, _⟩ | ⟨rfl, _⟩ <;> decide
      refine ⟨_, rfl, hgt _ _ rfl ?_⟩
      refine ⟨_, _, rfl, rfl, sz (by rw [S_len, S_len]; omega), ?_⟩
      rw [S_cat]
      refine ⟨_, rfl, _, _, rfl, rfl, sz (by rw [S_len, S_len, List.length_append]; omega), ?_⟩
      rw [S_cat]
      refine ⟨sz (by show 3 ≤ 1000000; decide), fun u2 nu2 => ?_⟩
      generalize hH5 : upd _ u2 _ = H5
      have s5 := new_same hH5 nu2
      have e5 := new_at hH5
      have hp4 := hp3.same s4
      refine ⟨_, rfl, p, 3, rfl, hp4.same s5, by decide, by decide, fun d2 H6 hd2 k6 hp6 => ?_⟩
      obtain ⟨sp2, hsp2, hx2⟩ := sp3 hd2
      obtain ⟨hv2, hl2⟩ := sp_vis hsp2
      refine ⟨u2, _, _, _, rfl, rfl, .inl (.inl (k6.one (pne hp4 nu2) e5)), atI_nat hx2, ?_⟩
      refine ⟨_, _, rfl, rfl, sz (by rw [S_len, S_len, List.length_append, List.length_append]; omega), ?_⟩
      rw [S_cat]
      have htk : ws.take (m + 1) = ws.take m ++ [wd] := by rw [List.take_succ, hwd]; rfl
      refine ⟨_, _, _, rfl, k3.trans ((Keep.of_same (s4.trans s5)).trans k6), hp6, by simp only [List.length_append]; omega, fun c hc => ?_, fun h => absurd h (by omega), fun _ r ws2 hst htk2 => ?_⟩
      · rcases List.mem_append.mp hc with hc | hc
        · rcases List.mem_append.mp hc with hc | hc
          · rcases List.mem_append.mp hc with hc | hc
            · exact hfv c hc
            · rcases hg with ⟨rfl, _⟩ | ⟨rfl, _⟩
              · cases hc
              · rw [List.mem_singleton] at hc
                rw [hc]
                exact ⟨by decide, by decide⟩
          · exact hwv c hc
        · exact hv2 c hc
      · rw [htk, List.append_assoc, List.append_assoc, List.append_assoc, List.append_assoc]
        have inner : Toks (wd ++ (sp2 ++ r)) (wd :: ws2) := .word hpq (sp_stop hsp2 hst) (sp_toks hsp2 htk2)
        rcases hg with ⟨rfl, h0⟩ | ⟨rfl, h0⟩
        · subst h0
          exact ha rfl _ _ inner
        · exact hb h0 _ _ (.inr (.inl ⟨_, rfl⟩)) (.sp inner)
    · obtain ⟨f, y3, y4, rfl, k3, hp3, hfl, hfv, ha, hb⟩ := h
      rw [List.length_map] at hfl ha hb
      refine ⟨_, rfl, sz (by show 4 ≤ 1000000; decide), fun u2 nu2 => ?_⟩
      generalize hH5 : upd _ u2 _ = H5
      have s5 := new_same hH5 nu2
      have e5 := new_at hH5
      refine ⟨_, rfl, p, 4, rfl, hp3.same s5, by decide, by decide, fun d2 H6 hd2 k6 hp6 => ?_⟩
      obtain ⟨tl, htl, hx2⟩ := tail4 hd2
      obtain ⟨t1, t2, t3, t4⟩ := tail_ok tl htl
      refine ⟨u2, _, _, _, rfl, rfl, .inl (.inl (k6.one (pne hp3 nu2) e5)), atI_nat hx2, ?_⟩
      refine ⟨_, _, rfl, rfl, sz (by rw [S_len, S_len]; omega), ?_⟩
      rw [S_cat]
      refine q H6 _ (k3.trans ((Keep.of_same s5).trans k6)) hp6 ⟨?_, by rw [List.length_append]; omega, fun c hc => ?_⟩
      · by_cases h0 : ws.length = 0
        · have e0 : ws = [] := List.eq_nil_of_length_eq_zero h0
          have := ha h0 tl [] t2
          rw [e0]
          exact this
        · have := hb (by omega) tl [] t1 t2
          rw [List.take_length, List.append_nil] at this
          exact this
      · rcases List.mem_append.mp hc with hc | hc
        · exact hfv c hc
        · exact t4 c hc
abbrev N_law_plainer : List Str := ["_law_lines", "_law_found", "_law_line_here", "_law_kept"]
theorem sc_law_plainer : FnScope N_law_plainer ["_law_lines"] (defScope s_law_plainer) := ⟨rfl, rfl, rfl, by decide +kernel, rfl, by decide +kernel, by decide +kernel⟩
def sp_law_plainer (K : PySem.W.Frag) : Sp := fun vs H Q _ => ∃ (L : Addr) (ls : List (List (List Nat) × List Nat)), vs = [.ref L] ∧ H L = some (.lst (ls.map fun d => strV d.2)) ∧ ls.length ≤ 1000 ∧ (∀ d ∈ ls, Spread d.1 d.2 ∧ (TL.joinL [32] d.1).length ≤ 5000) ∧ ∀ H' D, Same H H' → H D = none → H' D = some (.lst (ls.map fun d => strV (plainM d.1 d.2))) → Q (.ref D) H'
theorem cal_law_plainer (T : Tx w K mg) : C8.Cal P w K mg base 1 "_law_plainer" (sp_law_plainer K) [] := by
  refine cal_of (st := s_law_plainer) (ps := ["_law_lines"]) T.d_law_plainer T.m_law_plainer sc_law_plainer (fun _ _ _ _ _ _ us hl => match us, hl with | [_], _ => rfl) (fun vs H Q E h => ?_) (fun cdv A outer s H vs Q E hr h => ?_)
  · obtain ⟨L, ls, rfl, _⟩ := h
    rfl
  · obtain ⟨L, ls, rfl, eL, hn, hw, q⟩ := h
    refine ⟨_, (pss_cons (ps_set (i := 1) sc_law_plainer.nd rfl (Or.inl rfl) (pe_lst pa_nil))
      (pss_cons (ps_for PassesOwn.never rfl (pi_list (pv 0)) (pg_name (i := 2) sc_law_plainer.nd rfl (Or.inl rfl))
        (pss_cons (ps_set (i := 3) sc_law_plainer.nd rfl (Or.inl rfl) (pe_ifExp (pt_cmpR op_in_sign pe_str (pv 2) (by rfl)) (pv 2) (pe_join pe_str (pe_words (pe_ix ix_list (pe_split (pv 2) pe_str) pe_int (fun _ _ => rfl))))))
        (pss_one (ps_expr (pe_bm PySem.F.plainAttrs_list PySem.F.slot_list_append PySem.F.type_list_append mt_append (pv 1) (pa_cons (pv 3) pa_nil))))))
      (pss_one (ps_ret (pv 1))))), ?_⟩
    refine ⟨Nat.zero_le _, fun F nF => ?_⟩
    generalize hH : upd H F _ = H1
    have s1 := new_same hH nF
    have e1 : H1 F = some (.lst []) := new_at hH
    have LF : L ≠ F := ne_of_none eL nF
    refine ⟨_, rfl, L, rfl, ⟨_, .inl (.inl (s1 _ _ eL))⟩, ?_⟩
    refine for_it (walk_list (xs := ls.map fun d => strV d.2)) (PlnI L F ls H1) ⟨none, none, rfl, Keep.refl _ _, e1⟩ (fun i σ H2 _ h => ?_) (fun i v σ H20 H2 hi h y => ?_) (fun σ H2 h => ?_)
    · obtain ⟨y2, y3, _, k2, _⟩ := h
      exact .inl (.inl (k2.one LF (s1 _ _ eL)))
    · obtain ⟨y2, y3, rfl, k2, e2⟩ := h
      obtain ⟨rfl, hv⟩ := y
      rw [List.getElem?_map] at hv
      obtain ⟨⟨ws, l⟩, hd, rfl⟩ := Option.map_eq_some_iff.mp hv
      obtain ⟨hsp, hjl⟩ := hw _ (List.mem_of_getElem? hd)
      dsimp only at hsp hjl
      have hi2 : i < ls.length := by rw [List.length_map] at hi; exact hi
      refine s_of ?_
      show tIf _ _ _ _ _ _
      refine te_w (.str (S (plainM ws l))) (fun H3 => Same H2 H3) (fun H3 s3 => ?_) (fun Q' key => ?_)
      · have e3 := s3 _ _ e2
        refine ⟨_, rfl, .inl ⟨rfl, _, .inl (.inl e3)⟩, _, rfl, F, _, _, rfl, rfl, e3, szl (by rw [List.length_map, List.length_take]; omega), ?_⟩
        refine ⟨_, _, rfl, k2.trans ((Keep.of_same s3).trans (Keep.put (by simp))), ?_⟩
        rw [upd_same, List.take_succ, hd]
        simp [strV]
      · refine ⟨_, rfl, 34, _, by rw [str_q], rfl, _, rfl, ?_⟩
        unfold plainM at key
        by_cases hq : 34 ∈ l
        · rw [if_pos hq] at key
          exact iteDT hq ⟨_, rfl, key _ (Same.refl _)⟩
        · rw [if_neg hq] at key
          refine iteDF hq ?_
          obtain ⟨z, rest, hsplit, hzl, hwords⟩ := split_words hsp hq
          have hl5 := hsp.2.1
          have hzl' : z.length ≤ 5000 := by omega
          refine ⟨⟨_, rfl⟩, _, rfl, ⟨_, rfl⟩, _, _, rfl, rfl, by decide +kernel, sz (by rw [S_len]; show l.length + 2 ≤ _; omega), fun u nu => ?_⟩
          rw [show (Txt.split (S (ws, l).2) ";") = z :: rest from hsplit]
          generalize hH3 : upd _ u _ = H3
          have s3 := new_same hH3 nu
          have e3 := new_at hH3
          refine ⟨u, _, _, .str z, rfl, rfl, .inl (.inl e3), atI_nat (j := 0) rfl, ⟨_, rfl⟩, z, rfl, rfl, sz (by omega), fun x nx => ?_⟩
          rw [hwords]
          generalize hH4 : upd _ x _ = H4
          have s4 := new_same hH4 nx
          have e4 := new_at hH4
          have hs := toks_sum hsp.1
          have hwl := toks_len hsp.1
          have e32 : (" " : Str) = S [32] := str_sp
          refine ⟨_, x, ws.map S, rfl, rfl, .inl (.inl (.inl e4)), ?_, ?_⟩
          · rw [List.map_map, List.length_map, e32, S_len]
            have : ws.map ((fun y : Str => y.length) ∘ S) = ws.map List.length := List.map_congr_left fun a _ => S_len a
            rw [this]
            show _ + ws.length * 1 ≤ _
            omega
          · rw [e32, SX.join_S]
            exact key _ (s3.trans s4)
    · obtain ⟨y2, y3, rfl, k2, e2⟩ := h
      rw [List.length_map, List.take_length] at e2
      exact ⟨_, rfl, q H2 F (fun b o e => k2.one (ne_of_none e nF) (s1 _ _ e)) nF e2⟩
end
end K21
/-! ## XC -/
set_option Elab.async false
set_option linter.all false
set_option maxRecDepth 100000
set_option maxHeartbeats 4000000
namespace K21
open PySem PySem.Spec PyProof.Rows L2 C8
local macro_rules | `(tactic| walk_at "adv") => `(tactic| repeat (first | refine ⟨_, rfl, ?_⟩ | refine ⟨rfl, ?_⟩ | refine ⟨_, _, rfl, rfl, ?_⟩ | refine iteT ?_ | refine iteF ?_))

open SrtO in
theorem ints_uniq {l m : List Int} (h1 : l.Pairwise (· ≤ ·)) (h2 : m.Pairwise (· ≤ ·)) (h : l.Perm m) : l = m := by
  have O : Swo fun a b : Int => decide (a < b) := ⟨fun x y h => decide_eq_false (by have := of_decide_eq_true h; omega), fun x y z a b => decide_eq_false (by have := of_decide_eq_false a; have := of_decide_eq_false b; omega)⟩
  have e : ∀ x : Int, eqv (fun a b : Int => decide (a < b)) x = fun y => decide (y = x) := fun x => funext fun y => by
    by_cases hxy : y = x
    · subst hxy
      rw [decide_eq_true rfl]
      exact eqv_iff.mpr ⟨decide_eq_false (by omega), decide_eq_false (by omega)⟩
    · rw [decide_eq_false hxy]
      cases q : eqv (fun a b : Int => decide (a < b)) x y with
      | false => rfl
      | true =>
        obtain ⟨a, b⟩ := eqv_iff.mp q
        have := of_decide_eq_false a
        have := of_decide_eq_false b
        exact absurd (show y = x by omega) hxy
  refine stb_uniq O (h1.imp fun {a b} h => decide_eq_false (by omega)) (h2.imp fun {a b} h => decide_eq_false (by omega)) ⟨h, fun x => ?_⟩
  rw [e x]
  exact filt_perm x h
def laidK (cs : List Cell) : List (Key × V) := cs.map fun c => (.inl (c.1 : Int), .int c.2)
theorem laidK_some {cs : List Cell} (h : AscC cs) : ∀ c ∈ cs, valV (laidK cs) (.inl (c.1 : Int)) = some (.int c.2) := by
  induction cs with
  | nil => intro c hc; cases hc
  | cons a cs ih =>
    intro c hc
    show valV ((.inl (a.1 : Int), .int a.2) :: laidK cs) _ = _
    rcases List.mem_cons.mp hc with e | hc
    · rw [e, valV_pos rfl]
    · have hlt := (List.pairwise_cons.mp h).1 c hc
      rw [valV_neg (fun z => by have := Sum.inl.inj z; omega)]
      exact ih (List.pairwise_cons.mp h).2 c hc
def LpI (D F : Addr) (cs : List Cell) (H0 : Hp) (i : Nat) (σ : L2.St) (H : Hp) : Prop := ∃ y2 : Option V, σ = [some (.ref D), some (.ref F), y2] ∧ Keep [F] H0 H ∧ FndAt H0 H F (mergeM (cs.take i))

section
variable {P : Program} {w : World} {K : PySem.W.Frag} {mg : Str → Option Value} {base : Heap}
abbrev N_law_parts : List Str := ["_law_laid", "_law_found", "_law_place"]
theorem sc_law_parts : FnScope N_law_parts ["_law_laid"] (defScope s_law_parts) := ⟨rfl, rfl, rfl, by decide +kernel, rfl, by decide +kernel, by decide +kernel⟩
def sp_law_parts (K : PySem.W.Frag) : Sp := fun vs H Q _ => ∃ (D : Addr) (cs : List Cell), vs = [.ref D] ∧ H D = some (.dK (laidK cs)) ∧ AscC cs ∧ cs.length ≤ 1000 ∧ ∀ H' L ys, Same H H' → H' L = some (.lst ys) → Each (PartV fun _ => True) H' ys (mergeM cs) → Q (.ref L) H'
theorem cal_law_parts (T : Tx w K mg) : C8.Cal P w K mg base 1 "_law_parts" (sp_law_parts K) [] := by
  refine cal_of (st := s_law_parts) (ps := ["_law_laid"]) T.d_law_parts T.m_law_parts sc_law_parts (fun _ _ _ _ _ _ us hl => match us, hl with | [_], _ => rfl) (fun vs H Q E h => ?_) (fun cdv A outer s H vs Q E hr h => ?_)
  · obtain ⟨D, cs, rfl, _⟩ := h
    rfl
  · obtain ⟨D0, cs, rfl, eD0, hasc, hlen, q⟩ := h
    refine ⟨_, (pss_cons (ps_set (i := 1) sc_law_parts.nd rfl (Or.inl rfl) (pe_lst pa_nil))
      (pss_cons (ps_for PassesOwn.never rfl (pi_list (pe_callB (cr_sortedKI rfl) (by rfl) T.f_sorted (by decide +kernel) (pa_cons (pv 0) pa_nil))) (pg_name (i := 2) sc_law_parts.nd rfl (Or.inl rfl))
        (pss_one (ps_if (PW.pt (pw_and (pt_cmpR (op_neD hr.units) (pv 1) (pe_lst pa_nil) (nomark _)) (pw_and1 (pt_cmpR op_eq (pe_op op_add (pe_ix ix_tup (pe_ix ix_list (pv 1) (pe_un un_neg pe_int) (fun _ _ => rfl)) pe_int (fun _ _ => rfl)) (pe_callB call_len_seq (by rfl) T.f_len (by decide +kernel) (pa_cons (pe_ix ix_tup (pe_ix ix_list (pv 1) (pe_un un_neg pe_int) (fun _ _ => rfl)) pe_int (fun _ _ => rfl)) pa_nil))) (pv 2) (nomark _)))))
          (pss_one (ps_expr (pe_bm PySem.F.plainAttrs_list PySem.F.slot_list_append PySem.F.type_list_append mt_append (pe_ix ix_tup (pe_ix ix_list (pv 1) (pe_un un_neg pe_int) (fun _ _ => rfl)) pe_int (fun _ _ => rfl)) (pa_cons (pe_dget (by exact hu_of hr) (pv 0) (pv 2) (fun _ _ => rfl)) pa_nil))))
          (pss_one (ps_expr (pe_bm PySem.F.plainAttrs_list PySem.F.slot_list_append PySem.F.type_list_append mt_append (pv 1) (pa_cons (pe_tup (pa_cons (pv 2) (pa_cons (pe_lst (pa_cons (pe_dget (by exact hu_of hr) (pv 0) (pv 2) (fun _ _ => rfl)) pa_nil)) pa_nil))) pa_nil)))))))
      (pss_one (ps_ret (pv 1))))), ?_⟩
    refine ⟨Nat.zero_le _, fun D nD => ?_⟩
    generalize hH : upd H D _ = H1
    have s1 := new_same hH nD
    have e1 : H1 D = some (.lst []) := new_at hH
    have DD : D0 ≠ D := ne_of_none eD0 nD
    refine ⟨_, rfl, D0, _, cs.map fun c => (c.1 : Int), rfl, s1 _ _ eD0, by unfold laidK; rw [List.map_map, List.map_map]; rfl, by rw [List.length_map]; omega, fun zs L hperm hsrt nL => ?_⟩
    generalize hH2 : upd _ L _ = H2
    have s2 := new_same hH2 nL
    have e2 := new_at hH2
    have ezs : zs = cs.map fun c => (c.1 : Int) := ints_uniq hsrt (List.pairwise_map.mpr (hasc.imp fun {a b} h => by omega)) hperm
    subst ezs
    have LD : L ≠ D := fun z => by rw [z, e1] at nL; cases nL
    have hk1 : Keep [D] H H2 := Keep.of_same (s1.trans s2)
    refine ⟨L, rfl, ⟨_, .inl (.inl e2)⟩, ?_⟩
    have eF2 : H2 D = some (.lst []) := s2 _ _ e1
    refine for_it (walk_list (xs := (cs.map fun c => (c.1 : Int)).map V.int)) (fun i σ H3 => LpI D0 D cs H2 i σ H3 ∧ H3 L = some (.lst ((cs.map fun c => (c.1 : Int)).map V.int))) ⟨⟨none, rfl, Keep.refl _ _, .inl ⟨rfl, eF2⟩⟩, e2⟩ (fun i σ H3 _ h => .inl (.inl h.2)) (fun i v σ H30 H3 hi h y => ?_) (fun σ H3 h => ?_)
    · obtain ⟨⟨y2, rfl, k2, hF⟩, eL3⟩ := h
      obtain ⟨rfl, hv⟩ := y
      rw [List.getElem?_map, List.getElem?_map] at hv
      have hi2 : i < cs.length := by rw [List.length_map, List.length_map] at hi; exact hi
      rw [List.getElem?_eq_getElem hi2] at hv
      obtain rfl : v = V.int (cs[i].1 : Int) := (Option.some.inj hv).symm
      obtain ⟨ws, ez, hZ⟩ := hF.list
      have hzl := hZ.1
      have hml := merge_len (cs.take i)
      have hil : (cs.take i).length ≤ 1000 := by rw [List.length_take]; omega
      have eD3 := k2.one DD (s2 _ _ (s1 _ _ eD0))
      have hget : ∀ {H4 : Hp}, H4 D0 = some (.dK (laidK cs)) → DGet H4 D0 (.int (cs[i].1 : Int)) (some (.int cs[i].2)) := fun {H4} e => by
        have h1 := DGet.k (k := Sum.inl (cs[i].1 : Int)) e
        rw [laidK_some hasc _ (List.getElem_mem hi2)] at h1
        exact h1
      refine ⟨_, rfl, Nat.zero_le _, fun u nu => ?_⟩
      generalize hH : upd _ u _ = H4
      have s3 := new_same hH nu
      have e3 : H4 u = some (.lst []) := new_at hH
      have hF3 := hF.same s3
      have hZ3 : Each (PartV fun b => b ≠ D) H4 ws _ := hZ.imp fun y d r => r.keep NoTup.nil (Keep.of_same s3) fun b _ => by simp
      have eL4 := s3 _ _ eL3
      refine ⟨_, _, .lst (.inl (.inl (s3 _ _ ez))) (dp_parts K hZ3), .lst (.inl (.inl e3)) .nil, (sh_parts _).shaped (by decide), sh_nil.shaped (by decide), _, rfl, ?_⟩
      rw [eqv_parts]
      have new : ∀ H5 : Hp, Same H4 H5 → addCell (mergeM (cs.take i)) cs[i] = mergeM (cs.take i) ++ [(cs[i].1, [cs[i].2])] →
          tDrop (tBM K "list" rAppend (tVar 1) (tCons (tTup (tCons (tVar 2) (tCons (tLst (tCons (tDGet (tVar 0) (tVar 2)) tNil)) tNil))) tNil)) { nx := fun σ H3 => LpI D0 D cs H2 (i + 1) σ H3 ∧ H3 L = some (.lst ((cs.map fun c => (c.1 : Int)).map V.int)), rt := fun _ _ => False, ct := fun σ H3 => LpI D0 D cs H2 (i + 1) σ H3 ∧ H3 L = some (.lst ((cs.map fun c => (c.1 : Int)).map V.int)) } [some (.ref D0), some (.ref D), some (.int (cs[i].1 : Int))] H5 := fun H5 s4 hadd => by
        have s34 := s3.trans s4
        have ez4 := s34 _ _ ez
        refine ⟨_, rfl, .inl ⟨rfl, _, .inl (.inl ez4)⟩, _, rfl, _, rfl, _, rfl, D0, _, rfl, hget (s34 _ _ eD3), sz (by show 1 ≤ 1000000; decide), fun r nr => ?_⟩
        generalize hH : upd _ r _ = H6
        have s5 := new_same hH nr
        have e5 : H6 r = some (.lst [.int cs[i].2]) := new_at hH
        refine ⟨sz (by show 2 ≤ 1000000; decide), fun t nt => ?_⟩
        generalize hH : upd _ t _ = H7
        have s6 := new_same hH nt
        have e6 : H7 t = some (.tup [.int (cs[i].1 : Int), .ref r]) := new_at hH
        refine ⟨D, ws, _, rfl, rfl, s6 _ _ (s5 _ _ ez4), szl (by rw [hzl]; omega), ?_⟩
        generalize hH : upd _ D _ = H8
        have k7 : Keep [D] H7 H8 := by rw [← hH]; exact Keep.put (by simp)
        have e7 := new_at hH
        have r0 : H2 r = none := fresh_keep k2 (by
          simp
          intro z
          rw [z, ez4] at nr
          cases nr) (s34.free nr)
        refine ⟨⟨_, rfl, k2.trans ((Keep.of_same (s34.trans (s5.trans s6))).trans k7), ?_⟩, k7.one LD (s6 _ _ (s5 _ _ (s4 _ _ eL4)))⟩
        rw [merge_take cs i hi2, hadd]
        exact (hF.same s34).more ez4 (s5.trans s6) nr r0 (s6 _ _ e5) e6 k7 e7
      rcases snoc_or (mergeM (cs.take i)) with hn | ⟨pd, d, hn⟩
      · rw [hn]
        refine iteF (iteF ?_)
        exact new H4 (Same.refl _) (by rw [hn]; rfl)
      · rw [hn]
        have hie : (pd ++ [d]).isEmpty = false := by cases pd <;> rfl
        rw [hie]
        refine iteT ?_
        rw [hn] at hF3
        rcases hF3 with ⟨h0, _⟩ | ⟨ys, pd2, al, bl, d2, hd, e, hY, eal, bD, b0, ebl⟩
        · simp at h0
        · obtain ⟨hp, hd2⟩ := List.append_inj' hd rfl
          have hd3 : d2 = d := (List.cons.inj hd2).1.symm
          subst hp hd3
          have hadd := addCell_snoc pd d2 cs[i]
          refine ⟨_, rfl, _, rfl, D, _, -1, .ref al, rfl, rfl, .inl (.inl e), atI_last _ _, al, _, 0, _, rfl, rfl, .inl (.inl eal), atI_nat (j := 0) rfl, ?_⟩
          refine ⟨_, rfl, _, rfl, D, _, -1, .ref al, rfl, rfl, .inl (.inl e), atI_last _ _, al, _, 1, _, rfl, rfl, .inl (.inl eal), atI_nat (j := 1) rfl, bl, _, rfl, .inl (.inl (.inl ebl)), _, _, rfl, rfl, _, rfl, rfl, _, rfl, ?_⟩
          by_cases hc : d2.1 + d2.2.length = cs[i].1
          · refine iteDT (by rw [List.length_map]; exact congrArg V.int (by omega)) ?_
            rw [if_pos hc] at hadd
            refine ⟨_, rfl, _, rfl, D, _, -1, .ref al, rfl, rfl, .inl (.inl e), atI_last _ _, al, _, 1, _, rfl, rfl, .inl (.inl eal), atI_nat (j := 1) rfl, .inl ⟨rfl, _, .inl (.inl ebl)⟩, _, rfl, _, rfl, D0, _, rfl, hget (s3 _ _ eD3), bl, _, _, rfl, rfl, ebl, ?_, ?_⟩
            · have := hml.2 d2 (by rw [hn]; simp)
              exact szl (by rw [List.length_map]; omega)
            · generalize hH : upd _ bl _ = H5
              have k4 : Keep [bl] H4 H5 := by rw [← hH]; exact Keep.put (by simp)
              have e4 := new_at hH
              refine ⟨⟨_, rfl, fun b o hb hz => ?_, ?_⟩, ?_⟩
              · have hbl : b ≠ bl := fun z => by rw [z, b0] at hz; cases hz
                exact k4.one hbl (s3 _ _ (k2 b o hb hz))
              · rw [merge_take cs i hi2, hn, hadd]
                exact FndAt.grow e hY eal bD b0 ebl k4 e4
              · exact k4.one (fun z => by rw [← z, e2] at b0; cases b0) eL4
          · refine iteDF (fun z => hc (by have := V.int.inj z; rw [List.length_map] at this; omega)) ?_
            rw [if_neg hc] at hadd
            exact new H4 (Same.refl _) (by rw [hn]; exact hadd)
    · obtain ⟨⟨y2, rfl, k2, hF⟩, _⟩ := h
      rw [List.length_map, List.length_map, List.take_length] at hF
      obtain ⟨zs, ez, hZ⟩ := hF.list
      refine ⟨_, rfl, q H3 D zs (fun b o e => k2 b o (by simp [ne_of_none e nD]) (s2 _ _ (s1 _ _ e))) ez (hZ.imp fun y d r => ?_)⟩
      obtain ⟨a, b, e, g1, _, g2⟩ := r
      exact ⟨a, b, e, g1, trivial, g2⟩
end
end K21
/-! ## XD -/
set_option Elab.async false
set_option linter.all false
set_option maxRecDepth 100000
set_option maxHeartbeats 4000000
namespace K21
open PySem PySem.Spec PyProof.Rows L2 C8
local macro_rules | `(tactic| walk_at "adv") => `(tactic| repeat (first | refine ⟨_, rfl, ?_⟩ | refine ⟨rfl, ?_⟩ | refine ⟨_, _, rfl, rfl, ?_⟩ | refine iteT ?_ | refine iteF ?_))


section
variable {P : Program} {w : World} {K : PySem.W.Frag} {mg : Str → Option Value} {base : Heap}
abbrev N_law_pot : List Str := ["_law_script", "_law_k", "_law_cell", "_law_some"]
theorem sc_law_pot : FnScope N_law_pot ["_law_script", "_law_k"] (defScope s_law_pot) := ⟨rfl, rfl, rfl, by decide +kernel, rfl, by decide +kernel, by decide +kernel⟩
def sp_law_pot (K : PySem.W.Frag) : Sp := fun vs H Q _ => ∃ (A : Addr) (ns : List Int), vs = [.ref A, .int 0] ∧ SqL K H A (ns.map V.int) ∧ ∀ H' p, Same H H' → H p = none → PotOk H' p → Q (.ref p) H'
theorem cal_law_pot (T : Tx w K mg) : C8.Cal P w K mg base 1 "_law_pot" (sp_law_pot K) [] := by
  refine cal_of (st := s_law_pot) (ps := ["_law_script", "_law_k"]) T.d_law_pot T.m_law_pot sc_law_pot (fun _ _ _ _ _ _ us hl => match us, hl with | [_, _], _ => rfl) (fun vs H Q E h => ?_) (fun cdv A outer s H vs Q E hr h => ?_)
  · obtain ⟨A, ns, rfl, _⟩ := h
    rfl
  · obtain ⟨A, ns, rfl, hS, q⟩ := h
    refine ⟨_, (pss_cons (ps_set (i := 2) sc_law_pot.nd rfl (Or.inl rfl) (pe_ifExp (pt_cmpR op_lt (pv 1) (pe_callB call_len_seq (by rfl) T.f_len (by decide +kernel) (pa_cons (pv 0) pa_nil)) (nomark _)) (pe_callB call_abs (by rfl) T.f_abs (by decide +kernel) (pa_cons (pe_ix ix_list (pv 0) (pv 1) (fun _ _ => rfl)) pa_nil)) (pe_op op_add (pe_op op_add (pe_op op_mul pe_int (pv 1)) pe_int) (pe_op op_mod (pe_callB call_abs (by rfl) T.f_abs (by decide +kernel) (pa_cons (pe_callB (cr_sum rfl) (by rfl) T.f_sum (by decide +kernel) (pa_cons (pe_slice sl_list (pv 0) po_none (po_some pe_int)) pa_nil)) pa_nil)) pe_int))))
      (pss_cons (ps_set (i := 3) sc_law_pot.nd rfl (Or.inl rfl) (pe_op op_add (pe_op op_mod (pe_callTy call_int1 (by rfl) T.f_int (by decide +kernel) (pa_cons (pe_op op_add (pe_op op_add (pe_op op_mul (pe_op op_mod (pe_callTy call_int1 (by rfl) T.f_int (by decide +kernel) (pa_cons (pv 2) pa_nil)) pe_int) pe_int) (pe_op op_mul pe_int (pv 1))) pe_int) pa_nil)) pe_int) pe_int))
      (pss_one (ps_ret (pe_lst (pa_cons (pe_callB (call_max2 rfl) (by rfl) T.f_max (by decide +kernel) (pa_cons pe_int (pa_cons (pe_op op_sub (pv 2) (pe_op op_pow pe_int pe_int)) pa_nil))) (pa_cons (pv 3) pa_nil))))))), ?_⟩
    refine seq_v (fun σ' H1 => ∃ c : Int, σ' = [some (.ref A), some (.int 0), some (.int c), none] ∧ Same H H1) (fun σ' H1 hP => ?_) (fun N key => ?_)
    · obtain ⟨c, rfl, s1⟩ := hP
      have hm0 : 0 ≤ c % 2147483549 := Int.emod_nonneg _ (by decide)
      have hm1 : c % 2147483549 < 2147483549 := Int.emod_lt_of_pos _ (by decide)
      refine ⟨_, rfl, .inl ⟨_, rfl, _, _, rfl, rfl, by show (0 : Int) < 2147483549; decide, _, _, rfl, rfl, .inr ⟨by decide, by decide⟩, _, rfl, _, _, rfl, rfl, .inr ⟨by decide, by decide⟩, _, _, rfl, rfl, _, _, rfl, rfl, .inl ⟨_, rfl, _, _, rfl, rfl, by show (0 : Int) < 2147483563; decide, _, _, rfl, rfl, ?_⟩⟩⟩
      refine ⟨_, rfl, _, _, rfl, rfl, ⟨by decide, by decide, by decide⟩, _, _, rfl, rfl, _, _, rfl, _, rfl, sz (by show 2 ≤ 1000000; decide), fun p np => ?_⟩
      generalize hH2 : upd _ p _ = H2
      have s2 := new_same hH2 np
      have e2 := new_at hH2
      refine q H2 p (s1.trans s2) (s1.free np) ⟨_, _, e2, ?_, ?_, ?_⟩
      · split <;> omega
      · have := Int.emod_nonneg (c % 2147483549 * 40763 + 5119 * 0 + 107) (show (2147483563 : Int) ≠ 0 by decide)
        omega
      · have := Int.emod_lt_of_pos (c % 2147483549 * 40763 + 5119 * 0 + 107) (show (0 : Int) < 2147483563 by decide)
        omega
    · refine ⟨_, rfl, _, rfl, A, _, rfl, .inl hS, _, _, rfl, rfl, _, rfl, ?_⟩
      cases ns with
      | nil =>
        refine iteDF (by decide) ?_
        refine ⟨_, rfl, _, _, rfl, rfl, .inl ⟨by decide, by decide⟩, _, _, rfl, rfl, ?_⟩
        refine ⟨_, rfl, _, rfl, A, _, rfl, hS, fun u nu => ?_⟩
        generalize hH2 : upd _ u _ = H2
        have s2 := new_same hH2 nu
        have e2 : H2 u = some (.lst (([] : List Int).map V.int)) := new_at hH2
        refine ⟨u, _, rfl, .inl (.inl e2), _, rfl, _, _, rfl, rfl, by show (0 : Int) < 1000003; decide, _, _, rfl, rfl, ?_⟩
        exact key _ _ ⟨_, rfl, s2⟩
      | cons i ns =>
        refine iteDT (by show (0 : Int) < _; rw [List.length_map, List.length_cons]; omega) ?_
        refine ⟨_, rfl, _, rfl, A, _, 0, .int i, rfl, rfl, hS, atI_nat (j := 0) rfl, i, rfl, ?_⟩
        exact key _ _ ⟨_, rfl, Same.refl _⟩
end
end K21
/-! ## K21Gen -/
set_option Elab.async false
set_option linter.all false
set_option maxRecDepth 100000
set_option maxHeartbeats 4000000
namespace K21
open PySem PySem.Spec PyProof.Rows L2
/-! the plain law: what a line of the law says -/
def WOk (w : List Nat) : Prop := (Plain w ∨ Quoted w) ∧ w.length ≤ 100 ∧ ∀ c ∈ w, Vis c
theorem goodW_ok {w : List Nat} (h : goodW w = true) : WOk w ∧ Plain w := by
  have hl := goodW_len h
  have h1 : w ≠ [] := of_decide_eq_true (Bool.and_eq_true_iff.mp h).1
  have hv : ∀ c ∈ w, 32 < c ∧ c < 127 ∧ c ≠ 34 ∧ c ≠ 59 := fun c hc => by
    have h2 := (List.all_eq_true.mp (Bool.and_eq_true_iff.mp (Bool.and_eq_true_iff.mp h).2).2) c hc
    obtain ⟨a, h2⟩ := Bool.and_eq_true_iff.mp h2
    obtain ⟨b, h2⟩ := Bool.and_eq_true_iff.mp h2
    obtain ⟨d, e⟩ := Bool.and_eq_true_iff.mp h2
    exact ⟨of_decide_eq_true a, of_decide_eq_true b, of_decide_eq_true d, of_decide_eq_true e⟩
  have hp : Plain w := ⟨h1, fun c hc => by
    obtain ⟨a, b, d, e⟩ := hv c hc
    exact ⟨by omega, e, d⟩⟩
  exact ⟨⟨.inl hp, by omega, fun c hc => by
    obtain ⟨a, b, _⟩ := hv c hc
    exact ⟨by omega, b⟩⟩, hp⟩
def isLab (n : List Nat) : Bool := decide (n.head? ≠ some 99)
def tlNS (tl : TL2) : List Nm := tl.map fun q => (q.1, isLab q.1, q.2)
theorem tlNS_names (tl : TL2) : (tlNS tl).map (·.1) = tl.map (·.1) := by
  unfold tlNS
  rw [List.map_map]
  rfl
theorem tl_look {tl : TL2} (h : TlOk tl) {n : List Nat} {v : Int} (hm : (n, v) ∈ tl) : look (tlNS tl) n = some (isLab n, v) :=
  look_mem (ns := tlNS tl) (by rw [tlNS_names]; exact h.1) (n, isLab n, v) (List.mem_map.mpr ⟨(n, v), hm, rfl⟩)
/-! values -/
def sgnOk (nm : List Nat) (m : Nat) : Bool := goodW (nm ++ 43 :: numT (m : Int)) && (goodW (nm ++ 45 :: numT (m : Int)) && (decide (valM (nm ++ 43 :: numT (m : Int)) = some (some nm, (m : Int))) && decide (valM (nm ++ 45 :: numT (m : Int)) = some (some nm, 0 - (m : Int)))))
def nameOk (nm : List Nat) : Bool := decide (valM nm = some (some nm, 0)) && (decide (isNameM nm = true) && (decide (nm.getLast? ≠ some 58) && (sgnOk nm 1 && (sgnOk nm 2 && sgnOk nm 3))))
theorem names_c : ∀ j : Fin 16, nameOk (nmC j.val) = true := by decide +kernel
theorem names_l : ∀ j : Fin 16, nameOk (nmL j.val) = true := by decide +kernel
theorem names_m : ∀ j : Fin 16, nameOk (nmM j.val) = true := by decide +kernel
theorem nmK_ok (k : NK) {j : Nat} (h : j < 16) : nameOk (nmK k j) = true := by
  cases k
  · exact names_c ⟨j, h⟩
  · exact names_l ⟨j, h⟩
  · exact names_m ⟨j, h⟩
theorem nm_val {nm : List Nat} (h : nameOk nm = true) : valM nm = some (some nm, 0) ∧ isNameM nm = true ∧ nm.getLast? ≠ some 58 ∧ ∀ m, 1 ≤ m → m ≤ 3 → sgnOk nm m = true := by
  obtain ⟨a, h⟩ := Bool.and_eq_true_iff.mp h
  obtain ⟨b, h⟩ := Bool.and_eq_true_iff.mp h
  obtain ⟨c, h⟩ := Bool.and_eq_true_iff.mp h
  obtain ⟨d1, h⟩ := Bool.and_eq_true_iff.mp h
  obtain ⟨d2, d3⟩ := Bool.and_eq_true_iff.mp h
  refine ⟨of_decide_eq_true a, of_decide_eq_true b, of_decide_eq_true c, fun m h1 h2 => ?_⟩
  have : m = 1 ∨ m = 2 ∨ m = 3 := by omega
  rcases this with rfl | rfl | rfl
  · exact d1
  · exact d2
  · exact d3
theorem val_ok {tl : TL2} (h : TlOk tl) {s : List Nat} {k : Int} (hv : ValT tl s k) : goodW s = true ∧ ∃ v, valM s = some v ∧ worthM (tlNS tl) v = some k ∧ -10 ≤ k ∧ k ≤ 300 := by
  rcases hv with ⟨n, hn, hs, rfl⟩ | ⟨nm, v, hm, hc⟩
  · obtain ⟨g1, _, g3, _⟩ := hs.ok hn
    exact ⟨g1, _, g3, rfl, by omega, by omega⟩
  · obtain ⟨kk, j, hj, e, hc1, hc2⟩ := h.2 _ hm
    dsimp only at e hc1 hc2
    have hb : 0 ≤ v ∧ v ≤ 200 := by
      by_cases hk : kk = .c
      · have := hc1 hk; omega
      · exact hc2 hk
    have hok := nmK_ok kk hj
    rw [← e] at hok
    obtain ⟨a, _, _, d⟩ := nm_val hok
    have hl := tl_look h hm
    rcases hc with ⟨rfl, rfl⟩ | ⟨m, h1, h2, hc⟩
    · refine ⟨by rw [e]; exact nmK_good hj, _, a, ?_, by omega, by omega⟩
      show (look (tlNS tl) s).map _ = _
      rw [hl]
      show some (k + 0) = some k
      rw [Int.add_zero]
    · obtain ⟨g1, g⟩ := Bool.and_eq_true_iff.mp (d m h1 h2)
      obtain ⟨g2, g⟩ := Bool.and_eq_true_iff.mp g
      obtain ⟨g3, g4⟩ := Bool.and_eq_true_iff.mp g
      rcases hc with ⟨rfl, rfl⟩ | ⟨rfl, rfl⟩
      · refine ⟨g1, _, of_decide_eq_true g3, ?_, by omega, by omega⟩
        show (look (tlNS tl) nm).map _ = _
        rw [hl]
        rfl
      · refine ⟨g2, _, of_decide_eq_true g4, ?_, by omega, by omega⟩
        show (look (tlNS tl) nm).map _ = _
        rw [hl]
        show some (v + (0 - (m : Int))) = some (v - m)
        congr 1
        omega
theorem word_of {tl : TL2} {v : Val} {k : Int} (h : worthM (tlNS tl) v = some k) (h1 : -10 ≤ k) (h2 : k ≤ 300) : wordM (tlNS tl) v = some (k % 65536) := by
  unfold wordM
  rw [h]
  show (if -32768 ≤ k ∧ k < 65536 then some (k % 65536) else none) = _
  rw [if_pos ⟨by omega, by omega⟩]
theorem vals_ok {tl : TL2} (h : TlOk tl) {ss : List (List Nat)} {ks : List Int} (hp : Paired (ValT tl) ss ks) : (∀ s ∈ ss, goodW s = true) ∧ ∃ vs : List Val, ss.map valM = vs.map some ∧ vs.map (wordM (tlNS tl)) = (ks.map fun k => k % 65536).map some := by
  induction hp with
  | nil => exact ⟨(fun s m => by cases m), [], rfl, rfl⟩
  | @cons s k ss ks r _ ih =>
    obtain ⟨g, v, h1, h2, h3, h4⟩ := val_ok h r
    obtain ⟨gs, vs, e1, e2⟩ := ih
    refine ⟨fun x m => ?_, v :: vs, ?_, ?_⟩
    · rcases List.mem_cons.mp m with e | m
      · rw [e]; exact g
      · exact gs x m
    · rw [List.map_cons, List.map_cons, h1, e1]
    · rw [List.map_cons, List.map_cons, List.map_cons, e2, word_of h2 h3 h4]
/-! the words laid -/
theorem insW_range {n : Str} {regs : List Nat} {imm : List Int} {w : Int} (h : InsW n regs imm w) : 0 ≤ w ∧ w < 65536 := by
  obtain ⟨i, hi, _, hr, hc⟩ := ins_shape h
  rcases hc with ⟨c1, x, y, z, hz, rfl, rfl, hw⟩ | ⟨c1, c2, x, y, k, rfl, rfl, h1, h2, hw⟩ | ⟨c1, c2, c3, x, k, rfl, rfl, h1, h2, hw⟩ | ⟨c1, k, rfl, rfl, h1, h2, hw⟩ | ⟨c1, rfl, rfl, hw⟩
  · have := hr x (by simp)
    have := hr y (by simp)
    omega
  · have := hr x (by simp)
    have := hr y (by simp)
    omega
  · have := hr x (by simp)
    omega
  · omega
  · omega
theorem texts_vis : ∀ s ∈ texts, s.length ≤ 7 ∧ ∀ c ∈ s, c ≠ 34 ∧ 32 ≤ c ∧ c < 127 := by decide +kernel
theorem line_laid {tl : TL2} {t pl : Nat} {k : IK} {ws : List (List Nat)} {ml : List Int} (hk : k.Ok) (h : LineT tl t pl k ws ml) : ml.length = k.size ∧ ∀ w ∈ ml, 0 ≤ w ∧ w < 65536 := by
  cases h with
  | con _ => exact ⟨rfl, fun w m => by cases m⟩
  | at_ _ => exact ⟨rfl, fun w m => by cases m⟩
  | space => exact ⟨List.length_replicate, fun w m => by rw [(List.mem_replicate.mp m).2]; decide⟩
  | @text s =>
    refine ⟨List.length_map .., fun w m => ?_⟩
    obtain ⟨c, hc, rfl⟩ := List.mem_map.mp m
    have := (texts_vis s hk).2 c hc
    omega
  | word h1 h2 =>
    refine ⟨by rw [List.length_map, ← paired_len h2, h1]; rfl, fun w m => ?_⟩
    obtain ⟨c, hc, rfl⟩ := List.mem_map.mp m
    omega
  | set _ _ h1 h2 =>
    refine ⟨rfl, fun w m => ?_⟩
    have a := insW_range h1
    have b := insW_range h2
    rcases List.mem_cons.mp m with e | m
    · rw [e]; exact a
    · rw [List.mem_singleton] at m
      rw [m]; exact b
  | ins h1 => exact ⟨rfl, fun w m => by rw [List.mem_singleton] at m; rw [m]; exact insW_range h1⟩
  | near _ _ _ _ h1 => exact ⟨rfl, fun w m => by rw [List.mem_singleton] at m; rw [m]; exact insW_range h1⟩
  | smallB _ _ _ _ h1 => exact ⟨rfl, fun w m => by rw [List.mem_singleton] at m; rw [m]; exact insW_range h1⟩
  | small _ _ _ _ h1 => exact ⟨rfl, fun w m => by rw [List.mem_singleton] at m; rw [m]; exact insW_range h1⟩
  | nop hkk h1 =>
    refine ⟨?_, fun w m => by rw [List.mem_singleton] at m; rw [m]; exact insW_range h1⟩
    rcases hkk with rfl | rfl <;> rfl
/-! the words of the line -/
def headOk (w : List Nat) : Bool := goodW w && decide (w.getLast? ≠ some 58)
theorem heads : headOk (cl ".at") = true ∧ headOk (cl ".space") = true ∧ headOk (cl ".text") = true ∧ headOk (cl ".word") = true ∧ headOk (cl "set") = true ∧ goodW [61] = true := by decide +kernel
theorem ops_good : ∀ n ∈ opNames, headOk (cl n) = true := by decide +kernel
theorem regW_good {r : Nat} (h : r < 8) : goodW (regW r) = true := by
  have go : ∀ r : Fin 8, goodW (regW r.val) = true := by decide +kernel
  exact go ⟨r, h⟩
theorem head_ok {w : List Nat} (h : headOk w = true) : goodW w = true ∧ w.getLast? ≠ some 58 := by
  obtain ⟨a, b⟩ := Bool.and_eq_true_iff.mp h
  exact ⟨a, of_decide_eq_true b⟩
theorem ins_name {n : Str} {regs : List Nat} {imm : List Int} {w : Int} (h : InsW n regs imm w) : n ∈ opNames := by
  obtain ⟨i, _, hi, _⟩ := ins_shape h
  exact List.mem_of_getElem? hi
theorem said_ok {n : Str} {regs : List Nat} {imm : List Int} {w : Int} (h : InsW n regs imm w) : (∀ x ∈ saidW regs imm, goodW x = true) ∧ (saidW regs imm).length ≤ 3 ∧ (∀ k ∈ imm, -128 ≤ k ∧ k ≤ 255) := by
  obtain ⟨i, hi, _, hr, hc⟩ := ins_shape h
  have himm : (∀ k ∈ imm, -128 ≤ k ∧ k ≤ 255) ∧ regs.length + imm.length ≤ 3 := by
    rcases hc with ⟨c1, x, y, z, hz, rfl, rfl, hw⟩ | ⟨c1, c2, x, y, k, rfl, rfl, h1, h2, hw⟩ | ⟨c1, c2, c3, x, k, rfl, rfl, h1, h2, hw⟩ | ⟨c1, k, rfl, rfl, h1, h2, hw⟩ | ⟨c1, rfl, rfl, hw⟩
    · exact ⟨fun k m => (by cases m), by show 3 ≤ 3; decide⟩
    · exact ⟨fun k m => by rw [List.mem_singleton] at m; rw [m]; exact ⟨h1, h2⟩, Nat.le_refl _⟩
    · exact ⟨fun k m => by rw [List.mem_singleton] at m; rw [m]; exact ⟨h1, h2⟩, by show 2 ≤ 3; decide⟩
    · exact ⟨fun k m => by rw [List.mem_singleton] at m; rw [m]; exact ⟨by omega, h2⟩, by show 1 ≤ 3; decide⟩
    · exact ⟨fun k m => (by cases m), by decide⟩
  refine ⟨fun x hx => ?_, by unfold saidW; rw [List.length_append, List.length_map, List.length_map]; exact himm.2, himm.1⟩
  rcases List.mem_append.mp hx with m | m
  · obtain ⟨r, h1, rfl⟩ := List.mem_map.mp m
    exact regW_good (hr r h1)
  · obtain ⟨k, h1, rfl⟩ := List.mem_map.mp m
    obtain ⟨a, b⟩ := himm.1 k h1
    exact (numT_ok a b).1
/-- all words of a line: heads and rest -/
def WordsOk (ws : List (List Nat)) : Prop := (∀ w ∈ ws, WOk w) ∧ ws.length ≤ 6 ∧ ∃ w r, ws = w :: r ∧ w.getLast? ≠ some 58
theorem wordsOk_of {w : List Nat} {r : List (List Nat)} (h : headOk w = true) (hr : ∀ x ∈ r, goodW x = true) (hl : r.length ≤ 5) : WordsOk (w :: r) := by
  obtain ⟨a, b⟩ := head_ok h
  refine ⟨fun x m => ?_, by rw [List.length_cons]; omega, w, r, rfl, b⟩
  rcases List.mem_cons.mp m with e | m
  · rw [e]; exact (goodW_ok a).1
  · exact (goodW_ok (hr x m)).1
theorem nm_head {k : NK} {j : Nat} (h : j < 16) : headOk (nmK k j) = true := by
  unfold headOk
  rw [nmK_good h, decide_eq_true (nm_val (nmK_ok k h)).2.2.1]
  rfl
theorem line_words_ok {tl : TL2} {t pl : Nat} {k : IK} {ws : List (List Nat)} {ml : List Int} (htl : TlOk tl) (ht : t < 16) (hpl : pl ≤ 200) (hk : k.Ok) (h : LineT tl t pl k ws ml) : WordsOk ws := by
  obtain ⟨h1, h2, h3, h4, h5, h6⟩ := heads
  have one : ∀ {P : List Nat → Prop} {a : List Nat}, P a → ∀ x ∈ [a], P x := fun {P a} p x m => by rw [List.mem_singleton] at m; rw [m]; exact p
  have two : ∀ {P : List Nat → Prop} {a b : List Nat}, P a → P b → ∀ x ∈ [a, b], P x := fun {P a b} p q x m => by
    rcases List.mem_cons.mp m with e | m
    · rw [e]; exact p
    · exact one q x m
  have three : ∀ {P : List Nat → Prop} {a b c : List Nat}, P a → P b → P c → ∀ x ∈ [a, b, c], P x := fun {P a b c} p q r x m => by
    rcases List.mem_cons.mp m with e | m
    · rw [e]; exact p
    · exact two q r x m
  cases h with
  | @con n s hs =>
    obtain ⟨g, _⟩ := hs.ok (by have := hk.2; omega)
    exact wordsOk_of (nm_head (k := .c) ht) (two h6 g) (by show 2 ≤ 5; decide)
  | at_ hs =>
    obtain ⟨g, _⟩ := hs.ok (by omega)
    exact wordsOk_of h1 (one g) (by show 1 ≤ 5; decide)
  | @space n =>
    have : n < 4 := hk
    exact wordsOk_of h2 (one (numT_ok (by omega) (by omega)).1) (by show 1 ≤ 5; decide)
  | @text s =>
    obtain ⟨hl, hv⟩ := texts_vis s hk
    obtain ⟨a, b⟩ := head_ok h3
    refine ⟨two (goodW_ok a).1 ⟨.inr ⟨s, rfl, fun c hc => (hv c hc).1⟩, by simp; omega, fun c hc => ?_⟩, by show 2 ≤ 6; decide, _, _, rfl, b⟩
    rcases List.mem_cons.mp hc with e | hc
    · rw [e]; exact ⟨by decide, by decide⟩
    · rcases List.mem_append.mp hc with hc | hc
      · exact (hv c hc).2
      · rw [List.mem_singleton] at hc
        rw [hc]; exact ⟨by decide, by decide⟩
  | word hl hp => exact wordsOk_of h4 (vals_ok htl hp).1 (by have := hk.2; omega)
  | set hd hv _ _ => exact wordsOk_of h5 (two (regW_good hd) (val_ok htl hv).1) (by show 2 ≤ 5; decide)
  | ins hw =>
    obtain ⟨g, hl, _⟩ := said_ok hw
    exact wordsOk_of (ops_good _ (ins_name hw)) g (by omega)
  | near hw hd hj hm hi => exact wordsOk_of (ops_good _ (ins_name hi)) (two (regW_good hd) (nmK_good (k := .l) hj)) (by show 2 ≤ 5; decide)
  | smallB hw hd hj hm hi => exact wordsOk_of (ops_good _ (ins_name hi)) (two (regW_good hd) (nmK_good (k := .c) hj)) (by show 2 ≤ 5; decide)
  | small hw hd hj hm hi => exact wordsOk_of (ops_good _ (ins_name hi)) (three (regW_good hd) (regW_good (by omega)) (nmK_good (k := .c) hj)) (by show 3 ≤ 5; decide)
  | nop _ hi => exact wordsOk_of (ops_good _ (ins_name hi)) (fun x m => by cases m) (by decide)
end K21
/-! ## K21Gen2 -/
set_option Elab.async false
set_option linter.all false
set_option maxRecDepth 100000
set_option maxHeartbeats 4000000
namespace K21
open PySem PySem.Spec PyProof.Rows L2
/-! what a line of the law is shaped to -/
theorem fsh_of : ∀ q ∈ shT, (q.1, (q.2.1, if q.2.2.1 = 0 then 0 else 1)) ∈ fshT := by decide +kernel
theorem far_uni : ∀ n ∈ branches, ∀ q ∈ opsT, q.1 = n → q.2 = "far" := by decide +kernel
theorem imm_vals {imm : List Int} (h : ∀ k ∈ imm, -128 ≤ k ∧ k ≤ 255) : (imm.map numT).map valM = (imm.map fun k => ((none, k) : Val)).map some := by
  rw [List.map_map, List.map_map]
  exact List.map_congr_left fun k hk => (numT_ok (h k hk).1 (h k hk).2).2.1
theorem eq61 {w : List Nat} (h : ∃ v, valM w = some v) : w ≠ [61] := fun e => by
  obtain ⟨v, h⟩ := h
  have : valM [61] = none := by decide +kernel
  rw [e, this] at h
  cases h
theorem regW_61 (r : Nat) : regW r ≠ [61] := fun e => by cases (List.cons.inj e).1
theorem notEq_of {a : List Nat} {r : List (List Nat)} (h : ∀ x, r.head? = some x → x ≠ [61]) : NotEq3 (a :: r) := fun z => by
  cases r with
  | nil => cases z.2
  | cons b r => exact h b rfl (Option.some.inj z.2)
/-- an instruction with values of given worths -/
theorem one_ok {tl : TL2} {n : Str} {regs : List Nat} {imm : List Int} {w : Int} {pl : Int} (hI : InsW n regs imm w) {xs : List (List Nat)} {vs : List Val} (hx : xs.map valM = vs.map some) (hlen : vs.length = imm.length) (hk : ∃ ks, vs.map (worthM (tlNS tl)) = ks.map some ∧ immM (tlNS tl) pl n vs ks = imm) :
    Shaped (cl n :: (regs.map regW ++ xs)) (.one (cl n) regs vs) ∧ RowW (tlNS tl) pl (.one (cl n) regs vs) [w] := by
  obtain ⟨ks, h1, h2⟩ := hk
  obtain ⟨f, a, b, c, d, i, ⟨hf, hs, hr1, hr8, him⟩, hi, hw⟩ := id hI
  have hfs := fsh_of _ hs
  dsimp only at hfs
  have hxl : xs.length = vs.length := by
    have := congrArg List.length hx
    simpa using this
  have hb : imm.length = if b = 0 then 0 else 1 := by
    rcases him with ⟨rfl, rfl⟩ | ⟨h0, k, rfl, _⟩
    · rfl
    · rw [if_neg (by omega)]; rfl
  have hne : NotEq3 (cl n :: (regs.map regW ++ xs)) := notEq_of fun x hx2 => by
    cases regs with
    | nil =>
      cases xs with
      | nil => cases hx2
      | cons y ys =>
        have e : y = x := Option.some.inj hx2
        subst e
        cases vs with
        | nil => cases hx
        | cons v vs => exact eq61 ⟨v, (List.cons.inj hx).1⟩
    | cons r rs =>
      have e : regW r = x := Option.some.inj hx2
      rw [← e]
      exact regW_61 r
  refine ⟨.op (by rw [S_cl]; exact hf) hfs hr1 hr8 (by rw [hxl, hlen, hb]) hx hne, ks, w, h1, ?_, ?_, ?_, rfl⟩
  · rw [hlen, hb]
    split <;> omega
  · intro hbr
    rw [S_cl] at hbr
    have hfar := far_uni n hbr _ hf rfl
    dsimp only at hfar
    subst hfar
    obtain ⟨_, b8, _, _⟩ := (shape_of hs).2.2.2.1 rfl
    intro e
    rw [e] at hlen
    rw [b8] at hb
    rw [hb] at hlen
    cases hlen
  · rw [S_cl, h2]
    exact hI
theorem labM_none {ns : List Nm} {k : Int} : labM ns [(none, k)] = false := rfl
theorem labM_some {ns : List Nm} {m : List Nat} {j : Int} {b : Bool} {v : Int} (h : look ns m = some (b, v)) : labM ns [(some m, j)] = b := by
  show (match look ns m with
    | some (b, _) => b
    | none => false) = b
  rw [h]
theorem isLab_l (j : Nat) : isLab (nmL j) = true := rfl
theorem isLab_c (j : Nat) : isLab (nmC j) = false := rfl
theorem ways_not : ∀ w ∈ ways4, w ∉ branches := by decide +kernel
def LineS (tl : TL2) (t pl : Nat) (ml : List Int) : IK → Stm → Prop
  | .con n, st => st = .equal (nmC t) (n : Int)
  | .at_, st => st = .at_ (pl : Int)
  | k, st => RowW (tlNS tl) (pl : Int) st ml ∧ st.size = k.size
theorem line_shaped {tl : TL2} {t pl : Nat} {k : IK} {ws : List (List Nat)} {ml : List Int} (htl : TlOk tl) (ht : t < 16) (hpl : pl ≤ 200) (hk : k.Ok) (h : LineT tl t pl k ws ml) : ∃ st, Shaped ws st ∧ LineS tl t pl ml k st := by
  have ne1 : ∀ {a b : List Nat}, NotEq3 [a, b] := fun {a b} z => by cases z.1
  cases h with
  | @con n s hs =>
    obtain ⟨_, g2, _⟩ := hs.ok (by have := hk.2; omega)
    exact ⟨_, .equal (nm_val (nmK_ok .c ht)).2.1 g2, rfl⟩
  | at_ hs =>
    obtain ⟨_, g2, _⟩ := hs.ok (by omega)
    exact ⟨_, .data (.at_ g2 (by omega) (by omega)) ne1, rfl⟩
  | @space n =>
    have hn : n < 4 := hk
    have h0 : NumT n (numT (n : Int)) := .inl rfl
    obtain ⟨_, g2, _⟩ := h0.ok (by omega)
    refine ⟨_, .data (.space g2 (by omega)) ne1, ?_, by show (List.replicate n _).length = n; exact List.length_replicate⟩
    show (List.replicate n ((none, 0) : Val)).map (wordM (tlNS tl)) = (List.replicate n (0 : Int)).map some
    rw [List.map_replicate, List.map_replicate, word_of (tl := tl) (v := ((none, 0) : Val)) (k := 0) rfl (by decide) (by decide)]
    exact congrArg (List.replicate n) (by decide)
  | @text s =>
    obtain ⟨hl, hv⟩ := texts_vis s hk
    refine ⟨_, .data (.text (by omega)) ne1, ?_, by show (s.map chrVal).length = s.length; exact List.length_map ..⟩
    show (s.map chrVal).map (wordM (tlNS tl)) = (s.map fun c : Nat => (c : Int)).map some
    rw [List.map_map, List.map_map]
    refine List.map_congr_left fun c hc => ?_
    have := hv c hc
    have e : wordM (tlNS tl) (chrVal c) = some ((c : Int) % 65536) := word_of (tl := tl) (v := chrVal c) (k := (c : Int)) rfl (by omega) (by omega)
    rw [Function.comp_apply, Function.comp_apply, e]
    have e2 : (c : Int) % 65536 = (c : Int) := by omega
    rw [e2]
  | @word n ss ks h1 h2 =>
    obtain ⟨_, vs, e1, e2⟩ := vals_ok htl h2
    have hl : ss.length = vs.length := by
      have := congrArg List.length e1
      simpa using this
    have hk2 : 1 ≤ n ∧ n ≤ 3 := hk
    refine ⟨_, .data (.word e1 (by omega) (by omega)) (notEq_of fun x hx => ?_), e2, by show vs.length = n; omega⟩
    cases ss with
    | nil => cases hx
    | cons y ys =>
      have e : y = x := Option.some.inj hx
      subst e
      cases vs with
      | nil => cases e1
      | cons v vs => exact eq61 ⟨v, (List.cons.inj e1).1⟩
  | @set d s k w1 w2 hd hv h1 h2 =>
    obtain ⟨_, v, e1, e2, e3, e4⟩ := val_ok htl hv
    exact ⟨_, .set hd e1, ⟨_, w1, w2, word_of e2 e3 e4, h1, h2, rfl⟩, rfl⟩
  | @ins s n regs imm w hw =>
    obtain ⟨_, _, himm⟩ := said_ok hw
    obtain ⟨a, b⟩ := one_ok (tl := tl) (pl := (pl : Int)) hw (imm_vals himm) (List.length_map ..) ⟨imm, by rw [List.map_map]; rfl, by
      unfold immM
      rw [if_neg]
      rintro ⟨_, z⟩
      cases imm with
      | nil => cases z
      | cons k r => cases z⟩
    exact ⟨_, a, b, rfl⟩
  | @near way d j v w hway hd hj hm hw =>
    have hl := tl_look htl hm
    obtain ⟨a, b⟩ := one_ok (tl := tl) (pl := (pl : Int)) (xs := [nmL j]) (vs := [(some (nmL j), 0)]) hw (by rw [List.map_singleton, show valM (nmL j) = some (some (nmL j), 0) from (nm_val (nmK_ok .l hj)).1]; rfl) rfl ⟨[v], by
      show [(look (tlNS tl) (nmL j)).map _] = [some v]
      rw [hl]
      show [some (v + 0)] = [some v]
      rw [Int.add_zero], by
      unfold immM
      rw [if_pos ⟨hway, labM_some hl⟩]
      rfl⟩
    exact ⟨_, a, b, rfl⟩
  | @smallB way d j v w hway hd hj hm hw =>
    have hl := tl_look htl hm
    obtain ⟨a, b⟩ := one_ok (tl := tl) (pl := (pl : Int)) (xs := [nmC j]) (vs := [(some (nmC j), 0)]) hw (by rw [List.map_singleton, show valM (nmC j) = some (some (nmC j), 0) from (nm_val (nmK_ok .c hj)).1]; rfl) rfl ⟨[v], by
      show [(look (tlNS tl) (nmC j)).map _] = [some v]
      rw [hl]
      show [some (v + 0)] = [some v]
      rw [Int.add_zero], by
      unfold immM
      rw [if_neg]
      rintro ⟨_, z⟩
      rw [labM_some hl, isLab_c] at z
      cases z⟩
    exact ⟨_, a, b, rfl⟩
  | @small way d j v w hway hd hj hm hw =>
    have hl := tl_look htl hm
    obtain ⟨a, b⟩ := one_ok (tl := tl) (pl := (pl : Int)) (xs := [nmC j]) (vs := [(some (nmC j), 0)]) hw (by rw [List.map_singleton, show valM (nmC j) = some (some (nmC j), 0) from (nm_val (nmK_ok .c hj)).1]; rfl) rfl ⟨[v], by
      show [(look (tlNS tl) (nmC j)).map _] = [some v]
      rw [hl]
      show [some (v + 0)] = [some v]
      rw [Int.add_zero], by
      unfold immM
      rw [if_neg]
      rintro ⟨z, _⟩
      exact ways_not _ hway z⟩
    exact ⟨_, a, b, rfl⟩
  | nop hkk hw =>
    obtain ⟨a, b⟩ := one_ok (tl := tl) (pl := (pl : Int)) (xs := []) (vs := []) hw rfl rfl ⟨[], rfl, by unfold immM; split <;> rfl⟩
    rcases hkk with rfl | rfl
    · exact ⟨_, a, b, rfl⟩
    · exact ⟨_, a, b, rfl⟩
end K21
/-! ## K21Gen3 -/
set_option Elab.async false
set_option linter.all false
set_option maxRecDepth 100000
set_option maxHeartbeats 4000000
namespace K21
open PySem PySem.Spec PyProof.Rows L2
/-! the lines of the law, one after the other -/
def LineW (ws : List (List Nat)) (lab : Option (List Nat)) (st : Stm) : Prop := ∃ rest, LabOf ws lab rest ∧ (∀ w ∈ ws, w ≠ [] ∧ w.length ≤ 1000 ∧ Asc w) ∧ Shaped rest st
inductive ChainW : List (List (List Nat)) → LaySt → Prop where
  | nil : ChainW [] ⟨0, [], []⟩
  | snoc {wss : List (List (List Nat))} {s : LaySt} {ws : List (List Nat)} {lab : Option (List Nat)} {st : Stm} : ChainW wss s → LineW ws lab st → TakeOk s lab st → st.size ≤ 1000 → ChainW (wss ++ [ws]) (takeM s ((wss.length : Int) + 1) lab st)
theorem Chain.snoc {s : LaySt} {n : Nat} {ls : List (List Nat)} {s1 : LaySt} {l : List Nat} {lab : Option (List Nat)} {st : Stm} (h : Chain s n ls s1) (h1 : LineOk l lab st) (h2 : TakeOk s1 lab st) (h3 : st.size ≤ 1000) : Chain s n (ls ++ [l]) (takeM s1 (((n + ls.length : Nat) : Int) + 1) lab st) := by
  induction h with
  | nil => exact .cons h1 h2 h3 .nil
  | @cons s s' n l' ls lab' st' a b c d ih =>
    have := Chain.cons a b c (ih h2)
    have e : n + 1 + ls.length = n + (ls.length + 1) := by omega
    rw [e] at this
    exact this
theorem lineOk_of {ws : List (List Nat)} {l : List Nat} {lab : Option (List Nat)} {st : Stm} (h : Spread ws l) (k : LineW ws lab st) : LineOk l lab st := by
  obtain ⟨rest, h1, h2, h3⟩ := k
  exact ⟨by have := h.2.1; omega, fun m => by have := (h.2.2 10 m).1; omega, ws, rest, h.1, h1, h2, h3⟩
theorem paired_last {α β : Type} {F : α → β → Prop} {a : α} : ∀ {l : List α} {m : List β}, Paired F (l ++ [a]) m → ∃ m' b, m = m' ++ [b] ∧ Paired F l m' ∧ F a b
  | [], _, p => by
    cases p with
    | @cons _ b _ _ r t => cases t; exact ⟨[], b, rfl, .nil, r⟩
  | x :: l, _, p => by
    cases p with
    | @cons _ b _ lr r t =>
      obtain ⟨m', b2, e, p1, p2⟩ := paired_last (l := l) t
      exact ⟨b :: m', b2, by rw [e]; rfl, .cons r p1, p2⟩
theorem chain_of {wss : List (List (List Nat))} {s : LaySt} (h : ChainW wss s) : ∀ {ls : List (List Nat)}, Paired Spread wss ls → Chain ⟨0, [], []⟩ 0 ls s := by
  induction h with
  | nil => intro ls p; cases p; exact .nil
  | @snoc wss s ws lab st _ h1 h2 h3 ih =>
    intro ls p
    obtain ⟨la, l, rfl, p1, p2⟩ := paired_last p
    have hl := paired_len p1
    have := (ih p1).snoc (lineOk_of p2 h1) h2 h3
    rw [show ((0 + la.length : Nat) : Int) = (wss.length : Int) by omega] at this
    exact this
theorem WOk.line {w : List Nat} (h : WOk w) : w ≠ [] ∧ w.length ≤ 1000 ∧ Asc w := by
  obtain ⟨h1, h2, h3⟩ := h
  refine ⟨?_, by omega, fun c hc => by have := (h3 c hc).2; omega⟩
  rcases h1 with h1 | ⟨b, e, _⟩
  · exact h1.1
  · rw [e]; simp
theorem look_no {ns : List Nm} {x : List Nat} (h : ∀ n ∈ ns, n.1 ≠ x) : look ns x = none := by
  induction ns with
  | nil => rfl
  | cons a ns ih =>
    rw [look_cons, if_neg (h a (by simp))]
    exact ih fun n m => h n (List.mem_cons_of_mem _ m)
theorem look_app {a b : List Nm} {x : List Nat} {z : Bool × Int} (h : look a x = some z) : look (a ++ b) x = some z := by
  induction a with
  | nil => cases h
  | cons n a ih =>
    rw [List.cons_append, look_cons]
    rw [look_cons] at h
    by_cases e : n.1 = x
    · rw [if_pos e] at h ⊢; exact h
    · rw [if_neg e] at h ⊢; exact ih h
theorem look_perm {a b : List Nm} (h : a.Perm b) (nd : (b.map (·.1)).Nodup) {x : List Nat} {z : Bool × Int} (hz : look a x = some z) : look b x = some z := by
  obtain ⟨n, hn, e⟩ : ∃ n ∈ a, n.1 = x ∧ n.2 = z := by
    unfold look at hz
    obtain ⟨n, h1, h2⟩ := Option.map_eq_some_iff.mp hz
    exact ⟨n, List.mem_of_find?_eq_some h1, by simpa using List.find?_some h1, h2⟩
  have := look_mem nd n (h.mem_iff.mp hn)
  rw [e.1, e.2] at this
  exact this
/-! rows by more names -/
theorem worth_mono {a b : List Nm} (h : ∀ x z, look a x = some z → look b x = some z) {v : Val} {k : Int} (e : worthM a v = some k) : worthM b v = some k := by
  obtain ⟨nm, j⟩ := v
  cases nm with
  | none => exact e
  | some n =>
    have e2 : (look a n).map (fun z => z.2 + j) = some k := e
    obtain ⟨z, h1, h2⟩ := Option.map_eq_some_iff.mp e2
    show (look b n).map (fun z => z.2 + j) = some k
    rw [h n z h1]
    exact congrArg some h2
theorem word_mono {a b : List Nm} (h : ∀ x z, look a x = some z → look b x = some z) {v : Val} {k : Int} (e : wordM a v = some k) : wordM b v = some k := by
  obtain ⟨j, h1, h2, h3, h4⟩ := wordM_inv e
  unfold wordM
  rw [worth_mono h h1]
  show (if -32768 ≤ j ∧ j < 65536 then some (j % 65536) else none) = some k
  rw [if_pos ⟨h2, h3⟩, h4]
theorem map_mono {α : Type} {f g : α → Option Int} {l : List α} {m : List Int} (h : ∀ x k, f x = some k → g x = some k) (e : l.map f = m.map some) : l.map g = m.map some := by
  induction l generalizing m with
  | nil => cases m with
    | nil => rfl
    | cons _ _ => cases e
  | cons x l ih => cases m with
    | nil => cases e
    | cons k m =>
      obtain ⟨e1, e2⟩ := List.cons.inj e
      rw [List.map_cons, List.map_cons, h x k e1, ih e2]
theorem RowW.mono {a b : List Nm} (h : ∀ x z, look a x = some z → look b x = some z) {pl : Int} {st : Stm} {ws : List Int} (r : RowW a pl st ws) : RowW b pl st ws := by
  cases st with
  | words vs => exact map_mono (fun v k => word_mono h) (show vs.map (wordM a) = ws.map some from r)
  | equal n k => exact r.elim
  | at_ p => exact r.elim
  | set r0 v =>
    obtain ⟨k, w1, w2, h1, h2, h3, h4⟩ := r
    exact ⟨k, w1, w2, word_mono h h1, h2, h3, h4⟩
  | one n rs vs =>
    obtain ⟨ks, w, h1, h2, h3, h4, h5⟩ := r
    refine ⟨ks, w, map_mono (fun v k => worth_mono h) h1, h2, h3, ?_, h5⟩
    have e : immM b pl (S n) vs ks = immM a pl (S n) vs ks := by
      have el : labM b vs = labM a vs := by
        cases vs with
        | nil => rfl
        | cons v vs =>
          obtain ⟨nm, j⟩ := v
          cases nm with
          | none => rfl
          | some m =>
            cases ks with
            | nil => cases h1
            | cons k ks =>
              have e2 : (look a m).map (fun z => z.2 + j) = some k := (List.cons.inj h1).1
              obtain ⟨z, h6, _⟩ := Option.map_eq_some_iff.mp e2
              show (match look b m with
                | some (b, _) => b
                | none => false) = (match look a m with
                | some (b, _) => b
                | none => false)
              rw [h6, h m z h6]
      unfold immM
      rw [el]
    rw [e]
    exact h4
end K21
/-! ## K21Gen4 -/
set_option Elab.async false
set_option linter.all false
set_option maxRecDepth 100000
set_option maxHeartbeats 4000000
namespace K21
open PySem PySem.Spec PyProof.Rows L2
/-! what is told -/
theorem namesT_at : ∀ {t : Nat} {its : List Item} {q : List Nat × Int}, q ∈ namesT t its → ∃ i it, its[i]? = some it ∧ q ∈ itemN (t + i) it
  | t, [], q, h => by cases h
  | t, it :: r, q, h => by
    rcases List.mem_append.mp (show q ∈ itemN t it ++ namesT (t + 1) r from h) with h | h
    · exact ⟨0, it, rfl, h⟩
    · obtain ⟨i, x, h1, h2⟩ := namesT_at h
      refine ⟨i + 1, x, h1, ?_⟩
      rw [show t + (i + 1) = t + 1 + i by omega]
      exact h2
theorem itemN_nodup {t : Nat} (ht : t < 16) (it : Item) : ((itemN t it).map (·.1)).Nodup := by
  unfold itemN
  rw [List.map_append]
  refine List.nodup_append.mpr ⟨?_, ?_, fun a ha b hb e => ?_⟩
  · cases it.kind <;> simp [conN]
  · unfold labT
    split <;> simp
  · obtain ⟨q, hq, rfl⟩ := List.mem_map.mp ha
    obtain ⟨q2, hq2, rfl⟩ := List.mem_map.mp hb
    rw [conN_mem hq, (labT_mem hq2).1] at e
    cases (nmK_inj (a := .c) (b := .l) ht ht e).1
theorem namesT_nodup : ∀ (t : Nat) (its : List Item), t + its.length ≤ 16 → ((namesT t its).map (·.1)).Nodup
  | t, [], _ => List.nodup_nil
  | t, it :: r, h => by
    show ((itemN t it ++ namesT (t + 1) r).map (·.1)).Nodup
    have hl : r.length + 1 = (it :: r).length := rfl
    rw [List.map_append]
    refine List.nodup_append.mpr ⟨itemN_nodup (by omega) it, namesT_nodup (t + 1) r (by omega), fun a ha b hb e => ?_⟩
    obtain ⟨q, hq, rfl⟩ := List.mem_map.mp ha
    obtain ⟨q2, hq2, rfl⟩ := List.mem_map.mp hb
    obtain ⟨j, j1, j2, hj⟩ := namesT_mem hq2
    rcases itemN_mem hq with h1 | h1 <;> rcases hj with h2 | h2 <;> rw [h1, h2] at e
    · have := (nmK_inj (a := .c) (b := .c) (by omega) (by omega) e).2; omega
    · have := (nmK_inj (a := .c) (b := .l) (by omega) (by omega) e).2; omega
    · have := (nmK_inj (a := .l) (b := .c) (by omega) (by omega) e).2; omega
    · have := (nmK_inj (a := .l) (b := .l) (by omega) (by omega) e).2; omega
def MsOk (mtl : TL2) (t : Nat) : Prop := (mtl.map (·.1)).Nodup ∧ ∀ q ∈ mtl, ∃ j, j < t ∧ q.1 = nmM j ∧ 0 ≤ q.2 ∧ q.2 ≤ 200
theorem items_place {its : List Item} (h : ItemsOk its) (hl : its.length ≤ 11) {t : Nat} {it : Item} (e : its[t]? = some it) : it.place ≤ 130 ∧ it.stop ≤ 140 := by
  have ht := (List.getElem?_eq_some_iff.mp e).1
  obtain ⟨h1, _, _, h2, _⟩ := h t it e
  have := h.end_le t (by omega)
  have := IK.size_le h1
  unfold Item.stop
  omega
theorem tlOk_of {its : List Item} (h : ItemsOk its) (hl : its.length ≤ 11) {mtl : TL2} {t : Nat} (ht : t ≤ 11) (hm : MsOk mtl t) : TlOk (namesT 0 its ++ mtl) := by
  refine ⟨?_, fun q hq => ?_⟩
  · rw [List.map_append]
    refine List.nodup_append.mpr ⟨namesT_nodup 0 its (by omega), hm.1, fun a ha b hb e => ?_⟩
    obtain ⟨q, hq, rfl⟩ := List.mem_map.mp ha
    obtain ⟨q2, hq2, rfl⟩ := List.mem_map.mp hb
    obtain ⟨j, _, j2, hj⟩ := namesT_mem hq
    obtain ⟨j3, j4, j5, _⟩ := hm.2 q2 hq2
    rcases hj with h1 | h1 <;> rw [h1, j5] at e
    · cases (nmK_inj (a := .c) (b := .m) (by omega) (by omega) e).1
    · cases (nmK_inj (a := .l) (b := .m) (by omega) (by omega) e).1
  · rcases List.mem_append.mp hq with m | m
    · obtain ⟨i, it, e, hi⟩ := namesT_at m
      rw [Nat.zero_add] at hi
      have hi2 := (List.getElem?_eq_some_iff.mp e).1
      obtain ⟨p1, p2⟩ := items_place h hl e
      rcases List.mem_append.mp (show q ∈ conN i it.kind ++ labT i it from hi) with m | m
      · refine ⟨.c, i, by omega, conN_mem m, fun _ => ?_, fun z => absurd rfl z⟩
        have hk := (h i it e).1
        cases ek : it.kind with
        | con n =>
          rw [ek] at m hk
          have e2 : q = (nmC i, (n : Int)) := by simpa [conN] using m
          rw [e2]
          have h3 : 3 ≤ n ∧ n < 16 := hk
          dsimp only
          omega
        | _ => rw [ek] at m; cases m
      · obtain ⟨e2, _⟩ := labT_mem m
        rw [e2]
        exact ⟨.l, i, by omega, rfl, fun z => (by cases z), fun _ => by dsimp only; omega⟩
    · obtain ⟨j, j1, j2, j3, j4⟩ := hm.2 q m
      exact ⟨.m, j, by omega, j2, fun z => (by cases z), fun _ => ⟨j3, j4⟩⟩
/-! the state after some of the lines -/
def cellsR (rws : List (Row × List Int)) : List Cell := rws.flatMap fun r => cellsOf r.1.place r.2
theorem cellsR_snoc (rws : List (Row × List Int)) (r : Row × List Int) : cellsR (rws ++ [r]) = cellsR rws ++ cellsOf r.1.place r.2 := by
  unfold cellsR
  rw [List.flatMap_append]
  simp
structure GI (its : List Item) (t : Nat) (wss : List (List (List Nat))) (mtl : TL2) (s : LaySt) (rws : List (Row × List Int)) : Prop where
  chain : ChainW wss s
  place : s.place = endM (its.take t)
  names : s.names.Perm (tlNS (namesT 0 (its.take t) ++ mtl))
  ms : MsOk mtl t
  rows : s.rows = rws.map (·.1)
  roww : ∀ r ∈ rws, RowW (tlNS (namesT 0 its ++ mtl)) (r.1.place : Int) r.1.st r.2 ∧ r.1.st.size ≤ 1000 ∧ (∀ w ∈ r.2, 0 ≤ w ∧ w < 65536) ∧ r.1.place + r.2.length ≤ s.place
  asc : AscC (cellsR rws)
  low : ∀ c ∈ cellsR rws, c.1 < s.place
  few : rws.length ≤ wss.length ∧ s.names.length ≤ wss.length
  cnt : (cellsR rws).length ≤ s.place
theorem GI.zero (its : List Item) : GI its 0 [] [] ⟨0, [], []⟩ [] :=
  ⟨.nil, rfl, List.Perm.nil, ⟨List.nodup_nil, (fun q h => by cases h)⟩, rfl, (fun r h => by cases h), List.Pairwise.nil, (fun c h => by cases h), ⟨Nat.le_refl _, Nat.le_refl _⟩, Nat.le_refl _⟩
theorem cellsOf_asc : ∀ (p : Nat) (ws : List Int), AscC (cellsOf p ws) ∧ ∀ c ∈ cellsOf p ws, p ≤ c.1 ∧ c.1 < p + ws.length
  | p, [] => ⟨List.Pairwise.nil, fun c h => by cases h⟩
  | p, w :: r => by
    obtain ⟨a, b⟩ := cellsOf_asc (p + 1) r
    refine ⟨List.pairwise_cons.mpr ⟨fun c hc => by have := (b c hc).1; dsimp only; omega, a⟩, fun c hc => ?_⟩
    rcases List.mem_cons.mp hc with e | hc
    · rw [e]; simp
    · have := b c hc
      simp
      omega
theorem asc_add {cs : List Cell} {p q : Nat} {ws : List Int} (h : AscC cs) (hl : ∀ c ∈ cs, c.1 < p) (hq : p ≤ q) : AscC (cs ++ cellsOf q ws) ∧ ∀ c ∈ cs ++ cellsOf q ws, c.1 < q + ws.length := by
  obtain ⟨a, b⟩ := cellsOf_asc q ws
  refine ⟨List.pairwise_append.mpr ⟨h, a, fun x hx y hy => by have := hl x hx; have := (b y hy).1; omega⟩, fun c hc => ?_⟩
  rcases List.mem_append.mp hc with m | m
  · have := hl c m; omega
  · exact (b c m).2
/-- a line that lays nothing and tells no name -/
theorem GI.blank {its : List Item} {t : Nat} {wss : List (List (List Nat))} {mtl : TL2} {s : LaySt} {rws : List (Row × List Int)} (h : GI its t wss mtl s rws) (hp : s.place ≤ 960) : ∃ s' rws', GI its t (wss ++ [[]]) mtl s' rws' ∧ s'.place = s.place ∧ cellsR rws' = cellsR rws := by
  have hw : LineW [] none (.words []) := ⟨[], .inl ⟨rfl, rfl, (fun w r e => by cases e)⟩, (fun w m => by cases m), .empty⟩
  have hto : TakeOk s none (.words []) := ⟨by show s.place + 0 ≤ 960; omega, (fun n e => by cases e)⟩
  have hc := h.chain.snoc hw hto (by show 0 ≤ 1000; decide)
  refine ⟨_, rws ++ [(⟨(wss.length : Int) + 1, s.place, .words []⟩, [])], ⟨hc, h.place, ?_, h.ms, ?_, ?_, ?_, ?_, ?_, ?_⟩, rfl, ?_⟩
  · show (s.names ++ []).Perm _
    rw [List.append_nil]
    exact h.names
  · show s.rows ++ [_] = _
    rw [h.rows, List.map_append]
    rfl
  · intro r hr
    rcases List.mem_append.mp hr with m | m
    · exact h.roww r m
    · rw [List.mem_singleton] at m
      rw [m]
      exact ⟨rfl, by show 0 ≤ 1000; decide, fun w m => (by cases m), Nat.le_refl _⟩
  · rw [cellsR_snoc]
    show AscC (cellsR rws ++ [])
    rw [List.append_nil]
    exact h.asc
  · rw [cellsR_snoc]
    show ∀ c ∈ cellsR rws ++ [], c.1 < s.place
    rw [List.append_nil]
    exact h.low
  · have := h.few
    show (rws ++ [_]).length ≤ (wss ++ [_]).length ∧ (s.names ++ []).length ≤ (wss ++ [_]).length
    simp
    omega
  · rw [cellsR_snoc]
    show (cellsR rws ++ []).length ≤ s.place
    rw [List.append_nil]
    exact h.cnt
  · rw [cellsR_snoc]
    exact List.append_nil _
end K21
/-! ## K21Gen5 -/
set_option Elab.async false
set_option linter.all false
set_option maxRecDepth 100000
set_option maxHeartbeats 4000000
namespace K21
open PySem PySem.Spec PyProof.Rows L2
theorem tlNS_app (a b : TL2) : tlNS (a ++ b) = tlNS a ++ tlNS b := List.map_append
theorem colon_all : ∀ j : Fin 16, (goodW (nmL j.val ++ [58]) && goodW (nmM j.val ++ [58])) = true := by decide +kernel
theorem names_new {its : List Item} {t : Nat} {wss : List (List (List Nat))} {mtl : TL2} {s : LaySt} {rws : List (Row × List Int)} (h : GI its t wss mtl s rws) {x : List Nat} (h1 : ∀ q ∈ namesT 0 (its.take t), q.1 ≠ x) (h2 : ∀ q ∈ mtl, q.1 ≠ x) : look s.names x = none := look_no fun n hn => by
  have := h.names.mem_iff.mp hn
  obtain ⟨q, hq, e⟩ := List.mem_map.mp this
  rw [← e]
  rcases List.mem_append.mp hq with m | m
  · exact h1 q m
  · exact h2 q m
/-- a line that tells a label of its own -/
theorem GI.label {its : List Item} {t : Nat} {wss : List (List (List Nat))} {mtl : TL2} {s : LaySt} {rws : List (Row × List Int)} (h : GI its (t + 1) wss mtl s rws) (hm : MsOk mtl t) (ht : t < 16) (hl : its.length ≤ 16) (hp : s.place ≤ 200) : ∃ s' rws', GI its (t + 1) (wss ++ [[nmM t ++ [58]]]) (mtl ++ [(nmM t, (s.place : Int))]) s' rws' ∧ s'.place = s.place ∧ cellsR rws' = cellsR rws := by
  have hnm := nm_val (nmK_ok .m ht)
  have hg : goodW (nmM t ++ [58]) = true := (Bool.and_eq_true_iff.mp (colon_all ⟨t, ht⟩)).2
  have hw : LineW [nmM t ++ [58]] (some (nmM t)) (.words []) := ⟨[], .inr ⟨nmM t, rfl, rfl, hnm.2.1⟩, (fun w m => by rw [List.mem_singleton] at m; rw [m]; exact (goodW_ok hg).1.line), .empty⟩
  have hnew : look s.names (nmM t) = none := names_new h (fun q hq e => by
    obtain ⟨j, _, j2, hj⟩ := namesT_mem hq
    rw [List.length_take] at j2
    rcases hj with h1 | h1 <;> rw [h1] at e
    · cases (nmK_inj (a := .c) (b := .m) (by omega) ht e).1
    · cases (nmK_inj (a := .l) (b := .m) (by omega) ht e).1) fun q hq e => by
    obtain ⟨j, j1, j2, _⟩ := hm.2 q hq
    rw [j2] at e
    have := (nmK_inj (a := .m) (b := .m) (by omega) ht e).2
    omega
  have hto : TakeOk s (some (nmM t)) (.words []) := ⟨by show s.place + 0 ≤ 960; omega, (fun n e => by rw [← Option.some.inj e]; exact hnew)⟩
  have hc := h.chain.snoc hw hto (by show 0 ≤ 1000; decide)
  refine ⟨_, rws ++ [(⟨(wss.length : Int) + 1, s.place, .words []⟩, [])], ⟨hc, h.place, ?_, ⟨?_, fun q hq => ?_⟩, ?_, ?_, ?_, ?_, ?_, ?_⟩, rfl, ?_⟩
  · show (s.names ++ [(nmM t, true, (s.place : Int))]).Perm _
    rw [← List.append_assoc, tlNS_app]
    exact h.names.append_right _
  · rw [List.map_append]
    refine List.nodup_append.mpr ⟨hm.1, by simp, fun a ha b hb e => ?_⟩
    obtain ⟨q, hq, rfl⟩ := List.mem_map.mp ha
    obtain ⟨j, j1, j2, _⟩ := hm.2 q hq
    have hb2 : b = nmM t := by simpa using hb
    rw [j2, hb2] at e
    have := (nmK_inj (a := .m) (b := .m) (by omega) ht e).2
    omega
  · rcases List.mem_append.mp hq with m | m
    · obtain ⟨j, j1, j2, j3⟩ := hm.2 q m
      exact ⟨j, by omega, j2, j3⟩
    · rw [List.mem_singleton] at m
      rw [m]
      exact ⟨t, by omega, rfl, by dsimp only; omega, by dsimp only; omega⟩
  · show s.rows ++ [_] = _
    rw [h.rows, List.map_append]
    rfl
  · intro r hr
    rcases List.mem_append.mp hr with m | m
    · obtain ⟨a, b, c, d⟩ := h.roww r m
      refine ⟨a.mono fun x z hz => ?_, b, c, d⟩
      rw [← List.append_assoc, tlNS_app]
      exact look_app hz
    · rw [List.mem_singleton] at m
      rw [m]
      exact ⟨rfl, by show 0 ≤ 1000; decide, fun w m => (by cases m), Nat.le_refl _⟩
  · rw [cellsR_snoc]
    show AscC (cellsR rws ++ [])
    rw [List.append_nil]
    exact h.asc
  · rw [cellsR_snoc]
    show ∀ c ∈ cellsR rws ++ [], c.1 < s.place
    rw [List.append_nil]
    exact h.low
  · have := h.few
    show (rws ++ [_]).length ≤ (wss ++ [_]).length ∧ (s.names ++ [_]).length ≤ (wss ++ [_]).length
    simp
    omega
  · rw [cellsR_snoc]
    show (cellsR rws ++ []).length ≤ s.place
    rw [List.append_nil]
    exact h.cnt
  · rw [cellsR_snoc]
    exact List.append_nil _
def labW (t : Nat) (it : Item) : List (List Nat) := if it.lab = true then [nmL t ++ [58]] else []
def labO (t : Nat) (it : Item) : Option (List Nat) := if it.lab = true then some (nmL t) else none
theorem lineW_of {t : Nat} {it : Item} {ws : List (List Nat)} {st : Stm} (ht : t < 16) (h : WordsOk ws) (hs : Shaped ws st) : LineW (labW t it ++ ws) (labO t it) st ∧ (∀ w ∈ labW t it ++ ws, WOk w) ∧ (labW t it ++ ws).length ≤ 7 := by
  have hg : goodW (nmL t ++ [58]) = true := (Bool.and_eq_true_iff.mp (colon_all ⟨t, ht⟩)).1
  obtain ⟨h1, h2, w0, r0, e0, h3⟩ := h
  have hall : ∀ w ∈ labW t it ++ ws, WOk w := fun w m => by
    rcases List.mem_append.mp m with m | m
    · unfold labW at m
      split at m
      · rw [List.mem_singleton] at m
        rw [m]; exact (goodW_ok hg).1
      · cases m
    · exact h1 w m
  refine ⟨⟨ws, ?_, fun w m => (hall w m).line, hs⟩, hall, ?_⟩
  · unfold labW labO
    cases it.lab with
    | true => exact .inr ⟨nmL t, rfl, rfl, (nm_val (nmK_ok .l ht)).2.1⟩
    | false =>
      refine .inl ⟨rfl, rfl, fun w r e => ?_⟩
      have e2 : w0 :: r0 = w :: r := by rw [← e0]; exact e
      rw [← (List.cons.inj e2).1]
      exact h3
  · unfold labW
    rw [List.length_append]
    split <;> simp <;> omega
theorem takeM_row {ns : List Nm} {pl : Int} {st : Stm} {ml : List Int} (h : RowW ns pl st ml) (s : LaySt) (num : Int) (lab : Option (List Nat)) : takeM s num lab st = { place := s.place + st.size, names := s.names ++ labN lab s.place, rows := s.rows ++ [⟨num, s.place, st⟩] } ∧ (TakeOk s lab st = (s.place + st.size ≤ 960 ∧ ∀ n, lab = some n → look s.names n = none)) := by
  cases st with
  | equal n k => exact h.elim
  | at_ p => exact h.elim
  | words v => exact ⟨rfl, rfl⟩
  | one n r v => exact ⟨rfl, rfl⟩
  | set r v => exact ⟨rfl, rfl⟩
theorem labN_of (t : Nat) (it : Item) : labN (labO t it) it.place = tlNS (labT t it) := by
  unfold labO labT
  cases it.lab <;> rfl
theorem perm_step {ns : List Nm} {A X M : TL2} (h : ns.Perm (tlNS (A ++ M))) : (ns ++ tlNS X).Perm (tlNS (A ++ X ++ M)) := by
  rw [tlNS_app] at h
  rw [tlNS_app, tlNS_app]
  refine (h.append_right _).trans ?_
  rw [List.append_assoc, List.append_assoc]
  exact List.perm_append_comm.append_left _
theorem GI.item {its : List Item} {t : Nat} {wss : List (List (List Nat))} {mtl : TL2} {s : LaySt} {rws : List (Row × List Int)} (h : GI its t wss mtl s rws) (hok : ItemsOk its) (hl : its.length ≤ 11) {it : Item} (e : its[t]? = some it) {ws : List (List Nat)} {ml : List Int} (hL : LineT (namesT 0 its ++ mtl) t it.place it.kind ws ml) :
    ∃ s' rws', GI its (t + 1) (wss ++ [labW t it ++ ws]) mtl s' rws' ∧ s'.place = it.stop ∧ cellsR rws' = cellsR rws ++ cellsOf it.place ml ∧ (∀ w ∈ labW t it ++ ws, WOk w) ∧ (labW t it ++ ws).length ≤ 7 := by
  have ht := (List.getElem?_eq_some_iff.mp e).1
  have hit := hok t it e
  have hip := items_place hok hl e
  have htl := tlOk_of hok hl (by omega) h.ms
  have hws := line_words_ok htl (by omega) (by omega) hit.1 hL
  obtain ⟨st, hsh, hS⟩ := line_shaped htl (by omega) (by omega) hit.1 hL
  obtain ⟨hlw, hall, hlen⟩ := lineW_of (t := t) (it := it) (by omega) hws hsh
  obtain ⟨hml, hrg⟩ := line_laid hit.1 hL
  have hgit : its[t] = it := by
    have := List.getElem?_eq_getElem ht
    rw [e] at this
    exact (Option.some.inj this).symm
  have htake : namesT 0 (its.take (t + 1)) = namesT 0 (its.take t) ++ itemN t it := by rw [namesT_take its t ht, hgit]
  have hend : endM (its.take (t + 1)) = it.stop := by rw [List.take_succ_eq_append_getElem ht, endM_snoc, hgit]
  have seen : ∀ q ∈ namesT 0 (its.take t), q.1 ≠ nmC t ∧ q.1 ≠ nmL t := fun q hq => by
    obtain ⟨j, _, h5, h6⟩ := namesT_mem hq
    rw [List.length_take, Nat.min_eq_left (by omega), Nat.zero_add] at h5
    rcases h6 with h6 | h6 <;> rw [h6]
    · exact ⟨(fun z => by have := (nmK_inj (a := .c) (b := .c) (by omega) (by omega) z).2; omega), (fun z => by cases (nmK_inj (a := .c) (b := .l) (by omega) (by omega) z).1)⟩
    · exact ⟨(fun z => by cases (nmK_inj (a := .l) (b := .c) (by omega) (by omega) z).1), (fun z => by have := (nmK_inj (a := .l) (b := .l) (by omega) (by omega) z).2; omega)⟩
  have ms : ∀ q ∈ mtl, q.1 ≠ nmC t ∧ q.1 ≠ nmL t := fun q hq => by
    obtain ⟨j, j1, j2, _⟩ := h.ms.2 q hq
    rw [j2]
    exact ⟨(fun z => by cases (nmK_inj (a := .m) (b := .c) (by omega) (by omega) z).1), (fun z => by cases (nmK_inj (a := .m) (b := .l) (by omega) (by omega) z).1)⟩
  have newC : look s.names (nmC t) = none := names_new h (fun q hq => (seen q hq).1) fun q hq => (ms q hq).1
  have newL : ∀ n, labO t it = some n → look s.names n = none := fun n en => by
    unfold labO at en
    split at en
    · rw [← Option.some.inj en]
      exact names_new h (fun q hq => (seen q hq).2) fun q hq => (ms q hq).2
    · cases en
  have ms1 : MsOk mtl (t + 1) := ⟨h.ms.1, fun q hq => by
    obtain ⟨j, j1, j2⟩ := h.ms.2 q hq
    exact ⟨j, by omega, j2⟩⟩
  obtain ⟨k1, k2, k3, k4, k5⟩ := hit
  by_cases hcon : ∃ n, it.kind = .con n
  · obtain ⟨n, hk⟩ := hcon
    rw [hk] at hS hml
    have est : st = .equal (nmC t) (n : Int) := hS
    subst est
    have eml : ml = [] := List.eq_nil_of_length_eq_zero hml
    subst eml
    have hnl : it.lab = false := by
      cases hb : it.lab with
      | false => rfl
      | true => exact absurd (by rw [hk]; rfl) (k2 hb)
    have hlo : labO t it = none := by unfold labO; rw [hnl]; rfl
    have hpl : it.place = s.place := by rw [h.place]; exact k5 (by rw [hk]; intro z; cases z)
    rw [hlo] at hlw
    have hc := h.chain.snoc hlw (show TakeOk s none (.equal (nmC t) (n : Int)) from ⟨rfl, newC⟩) (by show 0 ≤ 1000; decide)
    have eN : itemN t it = [(nmC t, (n : Int))] := by
      unfold itemN labT
      rw [hk, hnl]
      rfl
    refine ⟨_, rws, ⟨hc, ?_, ?_, ms1, h.rows, h.roww, h.asc, h.low, ?_, h.cnt⟩, ?_, (List.append_nil _).symm, hall, hlen⟩
    · rw [hend]
      show s.place = it.stop
      unfold Item.stop
      rw [hk, hpl]
      rfl
    · rw [htake, eN]
      exact perm_step (X := [(nmC t, (n : Int))]) h.names
    · have := h.few
      show rws.length ≤ (wss ++ [_]).length ∧ (s.names ++ [_]).length ≤ (wss ++ [_]).length
      simp
      omega
    · show s.place = it.stop
      unfold Item.stop
      rw [hk, hpl]
      rfl
  by_cases hat : it.kind = .at_
  · rw [hat] at hS hml
    have est : st = .at_ (it.place : Int) := hS
    subst est
    have eml : ml = [] := List.eq_nil_of_length_eq_zero hml
    subst eml
    rw [← h.place] at k3
    have hto : TakeOk s (labO t it) (.at_ (it.place : Int)) := ⟨by omega, by omega, newL⟩
    have hc := h.chain.snoc hlw hto (by show 0 ≤ 1000; decide)
    have eN : itemN t it = labT t it := by
      unfold itemN
      rw [hat]
      rfl
    refine ⟨_, rws, ⟨hc, ?_, ?_, ms1, h.rows, fun r hr => ?_, h.asc, fun c hc => ?_, ?_, ?_⟩, ?_, (List.append_nil _).symm, hall, hlen⟩
    · rw [hend]
      show ((it.place : Int)).toNat = it.stop
      unfold Item.stop
      rw [hat, Int.toNat_natCast]
      rfl
    · rw [htake, eN]
      show (s.names ++ labN (labO t it) ((it.place : Int)).toNat).Perm _
      rw [Int.toNat_natCast, labN_of]
      exact perm_step h.names
    · obtain ⟨a, b, c, d⟩ := h.roww r hr
      refine ⟨a, b, c, ?_⟩
      show r.1.place + r.2.length ≤ ((it.place : Int)).toNat
      omega
    · have := h.low c hc
      show c.1 < ((it.place : Int)).toNat
      omega
    · have := h.few
      show rws.length ≤ (wss ++ [_]).length ∧ (s.names ++ labN (labO t it) _).length ≤ (wss ++ [_]).length
      have h2 : (labN (labO t it) ((it.place : Int)).toNat).length ≤ 1 := by unfold labO; cases it.lab <;> simp [labN]
      rw [List.length_append, List.length_append, List.length_singleton]
      omega
    · have := h.cnt
      show (cellsR rws).length ≤ ((it.place : Int)).toNat
      omega
    · show ((it.place : Int)).toNat = it.stop
      unfold Item.stop
      rw [hat, Int.toNat_natCast]
      rfl
  · obtain ⟨hrow, hsz⟩ : RowW (tlNS (namesT 0 its ++ mtl)) (it.place : Int) st ml ∧ st.size = it.kind.size := by
      cases hk : it.kind with
      | con n => exact absurd ⟨n, hk⟩ hcon
      | at_ => exact absurd hk hat
      | _ => rw [hk] at hS; exact hS
    have hs0 : it.kind.sort ≠ 1 := fun z => hat (by
      cases hk : it.kind with
      | at_ => rfl
      | ins s n r i => rw [hk] at k1 z; have := k1.1; have : s = 1 := z; omega
      | _ => rw [hk] at z; cases z)
    have hpl : it.place = s.place := by rw [h.place]; exact k5 hs0
    obtain ⟨etk, eto⟩ := takeM_row hrow s ((wss.length : Int) + 1) (labO t it)
    have hstop : s.place + st.size = it.stop := by unfold Item.stop; rw [hsz, hpl]
    have hc := h.chain.snoc hlw (by rw [eto]; exact ⟨by omega, newL⟩) (by have := IK.size_le k1; omega)
    rw [etk] at hc
    have eN : itemN t it = labT t it := by
      unfold itemN
      cases hk : it.kind with
      | con n => exact absurd ⟨n, hk⟩ hcon
      | _ => rfl
    obtain ⟨as1, as2⟩ := asc_add (q := it.place) (ws := ml) h.asc h.low (by omega)
    have ecell : cellsR (rws ++ [(⟨(wss.length : Int) + 1, s.place, st⟩, ml)]) = cellsR rws ++ cellsOf it.place ml := by
      rw [cellsR_snoc, hpl]
    refine ⟨_, rws ++ [(⟨(wss.length : Int) + 1, s.place, st⟩, ml)], ⟨hc, ?_, ?_, ms1, ?_, fun r hr => ?_, ?_, ?_, ?_, ?_⟩, hstop, ecell, hall, hlen⟩
    · rw [hend]
      exact hstop
    · rw [htake, eN]
      show (s.names ++ labN (labO t it) s.place).Perm _
      rw [← hpl, labN_of]
      exact perm_step h.names
    · show s.rows ++ [_] = _
      rw [h.rows, List.map_append]
      rfl
    · rcases List.mem_append.mp hr with m | m
      · obtain ⟨a, b, c, d⟩ := h.roww r m
        refine ⟨a, b, c, ?_⟩
        show _ ≤ s.place + st.size
        omega
      · rw [List.mem_singleton] at m
        rw [m]
        rw [hpl] at hrow
        exact ⟨hrow, by have := IK.size_le k1; dsimp only; omega, hrg, by show s.place + ml.length ≤ s.place + st.size; omega⟩
    · rw [ecell]
      exact as1
    · rw [ecell]
      intro c hc2
      have := as2 c hc2
      show c.1 < s.place + st.size
      omega
    · have := h.few
      have h2 : (labN (labO t it) s.place).length ≤ 1 := by unfold labO; cases it.lab <;> simp [labN]
      show (rws ++ [_]).length ≤ (wss ++ [_]).length ∧ (s.names ++ labN (labO t it) s.place).length ≤ (wss ++ [_]).length
      rw [List.length_append, List.length_append, List.length_append, List.length_singleton]
      simp
      omega
    · rw [ecell, List.length_append, cellsOf_len]
      have := h.cnt
      show _ ≤ s.place + st.size
      omega
end K21
/-! ## XE -/
set_option Elab.async false
set_option linter.all false
set_option maxRecDepth 100000
set_option maxHeartbeats 4000000
namespace K21
open PySem PySem.Spec PyProof.Rows L2 C8
local macro_rules | `(tactic| walk_at "adv") => `(tactic| repeat (first | refine ⟨_, rfl, ?_⟩ | refine ⟨rfl, ?_⟩ | refine ⟨_, _, rfl, rfl, ?_⟩ | refine iteT ?_ | refine iteF ?_))

theorem laid_no {cs : List Cell} {q : Nat} (h : ∀ c ∈ cs, c.1 < q) : valV (laidK cs) (.inl (q : Int)) = none := by
  induction cs with
  | nil => rfl
  | cons a r ih =>
    show valV ((.inl (a.1 : Int), .int a.2) :: laidK r) _ = none
    rw [valV_neg (fun z => by have := h a (by simp); have := Sum.inl.inj z; omega)]
    exact ih fun c hc => h c (List.mem_cons_of_mem _ hc)
theorem laid_put {cs : List Cell} {q : Nat} {w : Int} (h : ∀ c ∈ cs, c.1 < q) : putK (laidK cs) (.inl (q : Int)) (.int w) = laidK (cs ++ [(q, w)]) := by
  rw [putK_new _ (laid_no h)]
  unfold laidK
  rw [List.map_append]
  rfl
theorem cells_more (p : Nat) (ml : List Int) (m : Nat) (h : m < ml.length) : cellsOf p (ml.take (m + 1)) = cellsOf p (ml.take m) ++ [(p + m, ml[m])] := by
  rw [List.take_succ_eq_append_getElem h, cellsOf_app, List.length_take, Nat.min_eq_left (by omega)]
  rfl
theorem str_co : (":" : Str) = S [58] := by decide +kernel
theorem te_R {te : TE} {σ : L2.St} {H : Hp} {Q : VK} (R : V → Hp → Prop) (key : ∀ v H3, R v H3 → Q v H3) (h : ∀ Q' : VK, (∀ v H3, R v H3 → Q' v H3) → te σ H Q') : te σ H Q := h Q key
theorem str_sp2 : ("  " : Str) = S [32, 32] := by decide +kernel
theorem str_nop : ("; nop" : Str) = S [59, 32, 110, 111, 112] := by decide +kernel
theorem last_m : ∀ j : Fin 16, cutS (S (nmM j.val ++ [58])) (some (-1)) none = S [58] := by decide +kernel
theorem lineW_label (j : Fin 16) : WOk (nmM j.val ++ [58]) := (goodW_ok ((Bool.and_eq_true _ _).mp (colon_all j)).2).1
def LaidI (p I LL G D a wa ma : Addr) (n t : Nat) (H0 : Hp) (cs : List Cell) (pl : Nat) (ml : List Int) (m : Nat) (σ : L2.St) (H : Hp) : Prop := ∃ y10 y11 : Option V, σ = [some (.ref p), some (.int (n : Int)), some (.ref I), some (.ref LL), some (.ref G), some (.ref D), some (.int (t : Int)), some (.ref a), some (.ref wa), some (.ref ma), y10, y11] ∧ Keep [G] H0 H ∧ H G = some (.dK (laidK (cs ++ cellsOf pl (ml.take m))))
def ProgI (its : List Item) (p I LL G D : Addr) (n : Nat) (H1 : Hp) (i : Nat) (σ : L2.St) (H : Hp) : Prop := ∃ (lws : List (List (List Nat) × List Nat)) (mtl : TL2) (s : LaySt) (rws : List (Row × List Int)) (y6 y7 y8 y9 y10 y11 : Option V), σ = [some (.ref p), some (.int (n : Int)), some (.ref I), some (.ref LL), some (.ref G), some (.ref D), y6, y7, y8, y9, y10, y11] ∧
  Keep [p, LL, G, D] H1 H ∧ PotOk H p ∧ GI its i (lws.map (·.1)) mtl s rws ∧ H LL = some (.lst (lws.map fun d => strV d.2)) ∧ H D = some (.dK (toldK (namesT 0 its ++ mtl))) ∧ H G = some (.dK (laidK (cellsR rws))) ∧ (∀ d ∈ lws, Spread d.1 d.2 ∧ (TL.joinL [32] d.1).length ≤ 5000) ∧ lws.length ≤ 2 * i ∧ mtl.length ≤ i
theorem joinL_len : ∀ ws : List (List Nat), (∀ w ∈ ws, w.length ≤ 100) → (TL.joinL [32] ws).length ≤ 101 * ws.length
  | [], _ => Nat.le_refl _
  | [w], h => by
    have := h w (by simp)
    show w.length ≤ _
    simp
    omega
  | w :: a :: r, h => by
    have h1 := h w (by simp)
    have h2 := joinL_len (a :: r) fun x hx => h x (List.mem_cons_of_mem _ hx)
    rw [joinL_cons w (a :: r) (by simp), List.length_append, List.length_cons, List.length_cons]
    omega

section
variable {P : Program} {w : World} {K : PySem.W.Frag} {mg : Str → Option Value} {base : Heap}
abbrev N_law_program : List Str := ["_law_pot_here", "_law_many", "_law_items_here", "_law_lines", "_law_laid", "_law_told_here", "_law_turn", "_law_item", "_law_words", "_law_more", "_law_step", "_law_word_here"]
theorem sc_law_program : FnScope N_law_program ["_law_pot_here", "_law_many"] (defScope s_law_program) := ⟨rfl, rfl, rfl, by decide +kernel, rfl, by decide +kernel, by decide +kernel⟩
def ProgR (its : List Item) (H : Hp) (LL D G : Addr) (lws : List (List (List Nat) × List Nat)) (mtl : TL2) (s : LaySt) (rws : List (Row × List Int)) : Prop := H LL = some (.lst (lws.map fun d => strV d.2)) ∧ H D = some (.dK (toldK (namesT 0 its ++ mtl))) ∧ H G = some (.dK (laidK (cellsR rws))) ∧
  (∀ d ∈ lws, Spread d.1 d.2 ∧ (TL.joinL [32] d.1).length ≤ 5000) ∧ lws.length ≤ 2 * its.length
def sp_law_program : Sp := fun vs H Q _ => ∃ (p : Addr) (n : Nat), vs = [.ref p, .int (n : Int)] ∧ PotOk H p ∧ n ≤ 11 ∧ ∀ H' r LL D G its lws mtl s rws, Keep [p] H H' → PotOk H' p → H' r = some (.tup [.ref LL, .ref D, .ref G]) → LL ≠ p → D ≠ p → G ≠ p → ItemsOk its → its.length = n → GI its n (lws.map (·.1)) mtl s rws → ProgR its H' LL D G lws mtl s rws → Q (.ref r) H'
theorem cal_law_program (T : Tx w K mg) : C8.Cal P w K mg base 5 "_law_program" sp_law_program [] := by
  have c_law_told := cal_law_told (P := P) (base := base) T
  have c_law_items := cal_law_items (P := P) (base := base) T
  have c_law_line := cal_law_line (P := P) (base := base) T
  have c_law_spread := cal_law_spread (P := P) (base := base) T
  have c_law_draw := cal_law_draw (P := P) (base := base) T
  have c_law_pick := cal_law_pick (P := P) (base := base) T
  refine cal_of (st := s_law_program) (ps := ["_law_pot_here", "_law_many"]) T.d_law_program T.m_law_program sc_law_program (fun _ _ _ _ _ _ us hl => match us, hl with | [_, _], _ => rfl) (fun vs H Q E h => ?_) (fun cdv A outer s H vs Q E hr h => ?_)
  · obtain ⟨p, n, rfl, _⟩ := h
    rfl
  · obtain ⟨p, n, rfl, hp, hn, q⟩ := h
    refine ⟨_, (pss_cons (ps_par3 (i := 2) (j := 3) (l := 4) (by rfl) sc_law_program.nd rfl rfl rfl (by decide) (by decide) (by decide) rfl rfl rfl (pa_cons (pe_c c_law_items hr (by decide) (by rfl) (pa_cons (pv 0) (pa_cons (pv 1) pa_nil))) (pa_cons (pe_lst pa_nil) (pa_cons pe_dnewK pa_nil))) (by rfl))
      (pss_cons (ps_set (i := 5) sc_law_program.nd rfl (Or.inl rfl) (pe_c c_law_told hr (by decide) (by rfl) (pa_cons (pv 2) pa_nil)))
      (pss_cons (ps_for PassesOwn.never rfl (pi_enum (by rfl) T.f_enumerate (pa_cons (pv 2) pa_nil)) (pg_tup rfl (pgs_cons (pg_name (i := 6) sc_law_program.nd rfl (Or.inl rfl)) (pgs_cons (pg_name (i := 7) sc_law_program.nd rfl (Or.inl rfl)) pgs_nil)))
        (pss_cons (ps_asg (pe_c c_law_line hr (by decide) (by rfl) (pa_cons (pv 0) (pa_cons (pv 7) (pa_cons (pv 5) (pa_cons (pv 6) pa_nil))))) (pg_tup rfl (pgs_cons (pg_name (i := 8) sc_law_program.nd rfl (Or.inl rfl)) (pgs_cons (pg_name (i := 9) sc_law_program.nd rfl (Or.inl rfl)) pgs_nil))))
        (pss_cons (ps_for PassesOwn.never rfl (pi_enum (by rfl) T.f_enumerate (pa_cons (pv 9) pa_nil)) (pg_tup rfl (pgs_cons (pg_name (i := 10) sc_law_program.nd rfl (Or.inl rfl)) (pgs_cons (pg_name (i := 11) sc_law_program.nd rfl (Or.inl rfl)) pgs_nil)))
          (pss_one (ps_dput (by exact hu_of hr) (pv 4) (pe_op op_add (pe_ix ix_list (pv 7) pe_int (fun _ _ => rfl)) (pv 10)) (pv 11) rfl)))
        (pss_cons (ps_expr (pe_bm PySem.F.plainAttrs_list PySem.F.slot_list_append PySem.F.type_list_append mt_append (pv 3) (pa_cons (pe_c c_law_spread hr (by decide) (by rfl) (pa_cons (pv 0) (pa_cons (pe_op op_cat (pe_ifExp (pt_cmpR op_isN (pe_ix ix_list (pv 7) pe_int (fun _ _ => rfl)) pe_non (nomark _)) (pe_lst pa_nil) (pe_lst (pa_cons (pe_op op_add_str (pe_ix ix_list (pv 7) pe_int (fun _ _ => rfl)) pe_str) pa_nil))) (pv 8)) pa_nil))) pa_nil)))
        (pss_one (ps_if (pt_cmpR op_eq (pe_c c_law_draw hr (by decide) (by rfl) (pa_cons (pv 0) (pa_cons pe_int pa_nil))) pe_int (nomark _))
          (pss_cons (ps_expr (pe_bm PySem.F.plainAttrs_list PySem.F.slot_list_append PySem.F.type_list_append mt_append (pv 3) (pa_cons (pe_c c_law_pick hr (by decide) (by rfl) (pa_cons (pv 0) (pa_cons (pe_lst (pa_cons pe_str (pa_cons pe_str (pa_cons pe_str (pa_cons (pe_op op_add_str (pe_op op_add_str pe_str (pe_callTy call_str_int (by rfl) T.f_str (by decide +kernel) (pa_cons (pv 6) pa_nil))) pe_str) pa_nil))))) pa_nil))) pa_nil)))
          (pss_one (ps_if (pt_cmpR op_eq (pe_slice sl_str (pe_ix ix_list (pv 3) (pe_un un_neg pe_int) (fun _ _ => rfl)) (po_some (pe_un un_neg pe_int)) po_none) pe_str (nomark _))
            (pss_one (ps_dput (by exact hu_of hr) (pv 5) (pe_op op_add_str pe_str (pe_callTy call_str_int (by rfl) T.f_str (by decide +kernel) (pa_cons (pv 6) pa_nil))) (pe_op op_add (pe_ix ix_list (pv 7) pe_int (fun _ _ => rfl)) (pe_callB call_len_seq (by rfl) T.f_len (by decide +kernel) (pa_cons (pv 9) pa_nil))) rfl))
            pss_nil)))
          pss_nil))))))
      (pss_one (ps_ret (pe_tup (pa_cons (pv 3) (pa_cons (pv 5) (pa_cons (pv 4) pa_nil))))))))), ?_⟩
    have pne : ∀ {H6 : Hp} {x : Addr}, PotOk H6 p → H6 x = none → x ≠ p := fun {H6} {x} hp6 hx z => by
      obtain ⟨_, _, e2, _⟩ := hp6
      rw [z, e2] at hx
      cases hx
    refine ⟨_, rfl, _, rfl, p, n, rfl, hp, hn, fun H2 I ys its k2 hp2 nI eI hI hok hlen => ?_⟩
    refine ⟨Nat.zero_le _, fun LL nLL => ?_⟩
    generalize hH3 : upd H2 LL _ = H3
    have s3 := new_same hH3 nLL
    have eLL : H3 LL = some (.lst []) := new_at hH3
    refine fun G nG => ?_
    generalize hH4 : upd H3 G _ = H4
    have s4 := new_same hH4 nG
    have eG : H4 G = some (.dK []) := new_at hH4
    have s24 := s3.trans s4
    have hI4 : ItemsAt (fun a => H a = none ∧ H2 a ≠ none) H4 ys its := ⟨hI.1, fun t y it a b => by
      obtain ⟨x, vm, e, f, h1, h2⟩ := hI.2 t y it a b
      exact ⟨x, vm, e, ⟨f, fun z => by rw [z] at h1; cases h1⟩, s24 _ _ h1, h2.keep NoTup.nil (Keep.of_same s24)⟩⟩
    refine ⟨_, _, _, rfl, ?_⟩
    refine ⟨_, rfl, I, _, ys, its, rfl, s24 _ _ eI, hI4, hok, by omega, fun H5 D s5 nD eD => ?_⟩
    have s25 := s24.trans s5
    have hyl := hI.1
    have hp5 := hp2.same s25
    have LLp := pne hp2 nLL
    have Gp := pne (hp2.same s3) nG
    have Dp := pne (hp2.same s24) nD
    have LG : LL ≠ G := fun z => by rw [← z, eLL] at nG; cases nG
    have LD : LL ≠ D := fun z => by rw [← z, s4 _ _ eLL] at nD; cases nD
    have GD : G ≠ D := fun z => by rw [← z, eG] at nD; cases nD
    have Ip : I ≠ p := fun z => by
      obtain ⟨_, _, e, _⟩ := hp
      rw [z, e] at nI; cases nI
    have IS : I ∉ [p, LL, G, D] := by
      have h1 : I ≠ LL := ne_of_none eI nLL
      have h2 : I ≠ G := ne_of_none (s3 _ _ eI) nG
      have h3 : I ≠ D := ne_of_none (s24 _ _ eI) nD
      simp [Ip, h1, h2, h3]
    have hI5 : ItemsAt (fun a => a ∉ [p, LL, G, D]) H5 ys its := hI4.imp fun y t it r => by
      obtain ⟨x, vm, e, f, h1, h2⟩ := r
      refine ⟨x, vm, e, ?_, s5 _ _ h1, h2.keep NoTup.nil (Keep.of_same s5)⟩
      have a1 : x ≠ p := fun z => by
        obtain ⟨_, _, e2, _⟩ := hp
        rw [z, e2] at f
        cases f.1
      have a2 : x ≠ LL := fun z => f.2 (by rw [z]; exact nLL)
      have a3 : x ≠ G := fun z => by
        cases q2 : H2 x with
        | none => exact f.2 q2
        | some o =>
          have := s3 _ _ q2
          rw [z, nG] at this
          cases this
      have a4 : x ≠ D := ne_of_none h1 nD
      simp [a1, a2, a3, a4]
    have nt5 : NoTup [p, LL, G, D] H5 := fun a ha xs e => by
      have ha' : a = p ∨ a = LL ∨ a = G ∨ a = D := by simpa using ha
      rcases ha' with z | z | z | z <;> rw [z] at e
      · obtain ⟨_, _, e2, _⟩ := hp5
        rw [e2] at e; cases e
      · rw [(s4.trans s5) _ _ eLL] at e; cases e
      · rw [s5 _ _ eG] at e; cases e
      · rw [eD] at e; cases e
    refine ⟨_, rfl, I, _, rfl, .inl (.inl (s25 _ _ eI)), ?_⟩
    refine for_it (walk_enum (xs := ys)) (ProgI its p I LL G D n H5) ⟨[], [], _, [], none, none, none, none, none, none, rfl, Keep.refl _ _, hp5, GI.zero its, (s4.trans s5) _ _ eLL, ?_, s5 _ _ eG, (fun d h => by cases h), Nat.le_refl _, Nat.le_refl _⟩ (fun i σ H6 _ h => ?_) (fun i v σ H6 H7 hi h y => ?_) (fun σ H6 h => ?_)
    · rw [List.append_nil]; exact eD
    · obtain ⟨lws, mtl, s, rws, y6, y7, y8, y9, y10, y11, _, k6, _⟩ := h
      exact .inl (.inl (k6 _ _ IS (s25 _ _ eI)))
    · obtain ⟨lws, mtl, s, rws, y6, y7, y8, y9, y10, y11, rfl, k6, hp6, hG6, eLL6, eD6, eG6, hsp, hll, hml⟩ := h
      obtain ⟨tt, v1, v2, rfl, nt, rfl, h1, h2⟩ := y
      obtain rfl := Option.some.inj h1
      have hi2 : i < its.length := by rw [← hyl]; exact hi
      have eit : its[i]? = some its[i] := List.getElem?_eq_getElem hi2
      obtain ⟨a, vm, rfl, aS, ha, hm⟩ := (hI5.2 i v2 _ h2 eit).keep nt5 k6 (fun a f => f)
      generalize its[i] = it at eit ha hm
      have hit := hok i it eit
      have hip := items_place hok (by omega) eit
      have htl := tlOk_of hok (by omega) (show i ≤ 11 by omega) hG6.ms
      have hap : a ≠ p := fun z => aS (by simp [z])
      have haL : a ≠ LL := fun z => aS (by simp [z])
      have haG : a ≠ G := fun z => aS (by simp [z])
      have haD : a ≠ D := fun z => aS (by simp [z])
      have s7 : Same H6 (upd H6 tt (.tup [.int (i : Nat), .ref a])) := same_new nt
      refine ⟨tt, _, rfl, .inl (.inl upd_same), rfl, _, _, rfl, _, _, rfl, rfl, ?_⟩
      generalize upd H6 tt (.tup [.int (i : Nat), .ref a]) = H7 at s7
      have hn2 := namesT_len 0 its
      refine ⟨_, rfl, _, rfl, _, rfl, _, rfl, p, a, D, _, i, it, vm, rfl, by omega, hp6.same s7, hap, s7 _ _ ha, hm.keep NoTup.nil (Keep.of_same s7), hit.1, s7 _ _ eD6, by rw [List.length_append]; omega, htl, by omega, fun H8 r ws ml k8 hp8 nr hV hL => ?_⟩
      obtain ⟨wa, ma, er, nwa, nma, ewa, ema⟩ := hV
      have eLL8 := k8.one LLp (s7 _ _ eLL6)
      have eD8 := k8.one Dp (s7 _ _ eD6)
      have eG8 := k8.one Gp (s7 _ _ eG6)
      have ha8 := k8.one hap (s7 _ _ ha)
      have wG : wa ≠ G := fun z => by rw [z, s7 _ _ eG6] at nwa; cases nwa
      have wL : wa ≠ LL := fun z => by rw [z, s7 _ _ eLL6] at nwa; cases nwa
      have wp : wa ≠ p := pne (hp6.same s7) nwa
      have mG : ma ≠ G := fun z => by rw [z, s7 _ _ eG6] at nma; cases nma
      have mL : ma ≠ LL := fun z => by rw [z, s7 _ _ eLL6] at nma; cases nma
      have mp : ma ≠ p := pne (hp6.same s7) nma
      obtain ⟨hmll, _⟩ := line_laid hit.1 hL
      have hk7 := IK.size_le hit.1
      obtain ⟨s', rws', hGn, hsp', hcells, hWOk, hlen7⟩ := hG6.item hok (by omega) eit hL
      have hlow := hG6.low
      have hcnt := hG6.cnt
      have hpl1 : s.place ≤ it.place := by rw [hG6.place]; exact hit.2.2.1
      have tS : ∀ {x : Addr}, H6 x = none → x ∉ [p, LL, G, D] := fun {x} hx m => by
        have m' : x = p ∨ x = LL ∨ x = G ∨ x = D := by simpa using m
        rcases m' with z | z | z | z <;> rw [z] at hx
        · obtain ⟨_, _, e2, _⟩ := hp6
          rw [e2] at hx; cases hx
        · rw [eLL6] at hx; cases hx
        · rw [eG6] at hx; cases hx
        · rw [eD6] at hx; cases hx
      refine ⟨r, _, rfl, .inl (.inl er), rfl, _, _, rfl, _, _, rfl, rfl, ?_⟩
      refine ⟨_, rfl, ma, _, rfl, .inl (.inl ema), ?_⟩
      refine for_it (walk_enum (xs := ml.map V.int)) (LaidI p I LL G D a wa ma n i H8 (cellsR rws) it.place ml) ⟨y10, y11, rfl, Keep.refl _ _, ?_⟩ (fun m σ H9 _ h => ?_) (fun m v σ H9 H10 hm2 h y => ?_) (fun σ H9 h => ?_)
      · rw [List.take_zero]
        show H8 G = some (.dK (laidK (cellsR rws ++ [])))
        rw [List.append_nil]
        exact eG8
      · obtain ⟨_, _, _, k9, _⟩ := h
        exact .inl (.inl (k9.one mG ema))
      · obtain ⟨z10, z11, rfl, k9, eG9⟩ := h
        obtain ⟨t2, w1, w2, rfl, nt2, rfl, g1, g2⟩ := y
        obtain rfl := Option.some.inj g1
        have hm3 : m < ml.length := by rw [List.length_map] at hm2; exact hm2
        have g2' : (ml.map V.int)[m]? = some w2 := g2
        rw [List.getElem?_map, List.getElem?_eq_getElem hm3] at g2'
        obtain rfl : w2 = V.int ml[m] := (Option.some.inj g2').symm
        have s10 : Same H9 (upd H9 t2 (.tup [.int (m : Nat), .int ml[m]])) := same_new nt2
        refine ⟨t2, _, rfl, .inl (.inl upd_same), rfl, _, _, rfl, _, _, rfl, rfl, ?_⟩
        generalize upd H9 t2 (.tup [.int (m : Nat), .int ml[m]]) = H10 at s10
        have eG10 := s10 _ _ eG9
        have hb := (asc_add (q := it.place) (ws := ml.take m) hG6.asc hlow hpl1).2
        rw [List.length_take, Nat.min_eq_left (by omega)] at hb
        refine ⟨_, rfl, _, rfl, _, rfl, a, _, 3, _, rfl, rfl, .inl (.inl (s10 _ _ (k9.one haG ha8))), atI_nat (j := 3) rfl, _, rfl, _, _, rfl, rfl, _, _, rfl, DPut.k (k := Sum.inl ((it.place : Int) + (m : Int))) eG10 (szl ?_), ?_⟩
        · unfold laidK
          rw [List.length_map, List.length_append, cellsOf_len, List.length_take]
          omega
        · rw [show ((it.place : Int) + (m : Int)) = ((it.place + m : Nat) : Int) by omega, laid_put hb]
          refine ⟨_, _, rfl, k9.trans ((Keep.of_same s10).trans (Keep.put (by simp))), ?_⟩
          rw [upd_same, cells_more it.place ml m hm3, List.append_assoc]
      · obtain ⟨z10, z11, rfl, k9, eG9⟩ := h
        rw [List.length_map, List.take_length, ← hcells] at eG9
        have eLL9 := k9.one LG eLL8
        have eD9 := k9.one (Ne.symm GD) eD8
        have ewa9 := k9.one wG ewa
        have ha9 := k9.one haG ha8
        have hp9 : PotOk H9 p := hp8.keep k9 (by simpa using Ne.symm Gp)
        refine ⟨_, rfl, .inl ⟨rfl, _, .inl (.inl eLL9)⟩, ?_⟩
        refine ⟨_, rfl, ?_⟩
        show tIf _ _ _ _ _ _
        refine te_R (fun v H10 => ∃ u, v = .ref u ∧ Same H9 H10 ∧ H9 u = none ∧ H10 u = some (.lst ((labW i it).map strV))) (fun v H10 hv => ?_) (fun Q' key => ?_)
        rotate_left
        · refine ⟨_, rfl, a, _, 0, _, rfl, rfl, .inl (.inl ha9), atI_nat (j := 0) rfl, rfl, _, rfl, ?_⟩
          rw [lab_none]
          cases hb : it.lab with
          | false =>
            refine iteT ⟨Nat.zero_le _, fun u nu => key _ _ ⟨u, rfl, same_new nu, nu, ?_⟩⟩
            rw [upd_same]
            unfold labW
            rw [hb, if_neg (by decide)]
            rfl
          | true =>
            rw [hb] at ha9
            have hnl := numT_short (k := (i : Int)) (by omega) (by omega)
            have hsl : (S (nmL i)).length ≤ 100 := by
              rw [S_len]
              have := goodW_len ((Bool.and_eq_true _ _).mp (colon_all ⟨i, by omega⟩)).1
              rw [List.length_append] at this
              dsimp only at this
              omega
            refine iteF ⟨_, rfl, a, _, 0, _, rfl, rfl, .inl (.inl ha9), atI_nat (j := 0) rfl, _, _, rfl, rfl, ?_, ?_⟩
            · rw [str_co, S_len [58]]
              exact sz (by show _ + 1 ≤ _; omega)
            · rw [str_co, S_cat]
              refine ⟨sz (by show 1 ≤ 1000000; decide), fun u nu => key _ _ ⟨u, rfl, same_new nu, nu, ?_⟩⟩
              rw [upd_same]
              unfold labW
              rw [hb, if_pos rfl]
              rfl
        · obtain ⟨u, rfl, s10, nu, eu⟩ := hv
          have hl7 := hlen7
          rw [List.length_append] at hl7
          refine ⟨_, rfl, u, wa, _, _, rfl, rfl, eu, s10 _ _ ewa9, sz (by rw [List.length_map, List.length_map]; omega), fun ca nca => ?_⟩
          generalize hH11 : upd _ ca _ = H11
          have s11 := new_same hH11 nca
          have e11 := new_at hH11
          rw [← List.map_append] at e11
          have s911 := s10.trans s11
          have cap := pne (hp9.same s10) nca
          refine ⟨p, ca, labW i it ++ ws, rfl, hp9.same s911, cap, e11, by omega, hWOk, fun H12 l k12 hp12 hspr => ?_⟩
          have eLL12 := k12.one LLp (s911 _ _ eLL9)
          refine ⟨LL, _, _, rfl, rfl, eLL12, szl (by rw [List.length_map]; omega), ?_⟩
          generalize hH13 : upd H12 LL _ = H13
          have k13 : Keep [LL] H12 H13 := by rw [← hH13]; exact Keep.put (by simp)
          have eLL13 : H13 LL = some (.lst ((lws ++ [(labW i it ++ ws, l)]).map fun d => strV d.2)) := by
            rw [new_at hH13, List.map_append]
            rfl
          have kB : Keep [p, LL, G, D] H5 H13 := fun b o hb e => by
            have hb' : b ≠ p ∧ b ≠ LL ∧ b ≠ G ∧ b ≠ D := by simpa using hb
            exact k13.one hb'.2.1 (k12.one hb'.1 (s911 _ _ (k9.one hb'.2.2.1 (k8.one hb'.1 (s7 _ _ (k6 b o hb e))))))
          have eD13 := k13.one (Ne.symm LD) (k12.one Dp (s911 _ _ eD9))
          have eG13 := k13.one (Ne.symm LG) (k12.one Gp (s911 _ _ eG9))
          have ha13 := k13.one haL (k12.one hap (s911 _ _ ha9))
          have hp13 : PotOk H13 p := hp12.keep k13 (by simpa using Ne.symm LLp)
          have hspA : ∀ d ∈ lws ++ [(labW i it ++ ws, l)], Spread d.1 d.2 ∧ (TL.joinL [32] d.1).length ≤ 5000 := fun d hd => by
            rcases List.mem_append.mp hd with m | m
            · exact hsp d m
            · rw [List.mem_singleton] at m
              rw [m]
              have := joinL_len (labW i it ++ ws) fun w hw => (hWOk w hw).2.1
              exact ⟨hspr, by dsimp only; omega⟩
          have hGn' : GI its (i + 1) ((lws ++ [(labW i it ++ ws, l)]).map (·.1)) mtl s' rws' := by
            rw [List.map_append]
            exact hGn
          have hlenA : (lws ++ [(labW i it ++ ws, l)]).length ≤ 2 * i + 1 := by
            rw [List.length_append]
            show lws.length + 1 ≤ _
            omega
          generalize lws ++ [(labW i it ++ ws, l)] = lwA at eLL13 hspA hGn' hlenA
          dsimp only
          refine i_of ?_
          refine ⟨_, rfl, p, 6, rfl, hp13, by decide, by decide, fun d H14 hd k14 hp14 => ⟨rfl, _, rfl, ?_⟩⟩
          have eLL14 := k14.one LLp eLL13
          have eD14 := k14.one Dp eD13
          have eG14 := k14.one Gp eG13
          have ha14 := k14.one hap ha13
          have kC : Keep [p, LL, G, D] H5 H14 := fun b o hb e => by
            have hb' : b ≠ p ∧ b ≠ LL ∧ b ≠ G ∧ b ≠ D := by simpa using hb
            exact k14.one hb'.1 (kB b o hb e)
          by_cases hd0 : d = 0
          · rw [show decide (V.int (d : Int) = V.int 0) = true from decide_eq_true (by rw [hd0]; rfl)]
            refine iteT ?_
            refine s_of ?_
            refine ⟨_, rfl, .inl ⟨rfl, _, .inl (.inl eLL14)⟩, _, rfl, ?_⟩
            have hmt : ("m" : Str) ++ Str.ofString (toString (i : Int)) = S (nmM i) := by
              rw [str_m, pre_text]
              rfl
            have hml3 : (nmM i).length ≤ 100 := by
              have := goodW_len ((Bool.and_eq_true _ _).mp (colon_all ⟨i, by omega⟩)).2
              rw [List.length_append] at this
              dsimp only at this
              omega
            have hms : ("m" : Str).length + (Str.ofString (toString (i : Int))).length ≤ 100 := by
              have := numT_short (k := (i : Int)) (by omega) (by omega)
              have h1 : ("m" : Str).length = 1 := by decide +kernel
              omega
            refine ⟨_, rfl, _, rfl, log2_few (by omega), _, _, rfl, rfl, sz (by omega), ?_⟩
            rw [hmt, str_co]
            refine ⟨_, _, rfl, rfl, sz (by rw [S_len, S_len]; show _ + 1 ≤ _; omega), ?_⟩
            rw [S_cat]
            refine ⟨sz (by show 4 ≤ 1000000; decide), fun u2 nu2 => ?_⟩
            generalize hH15 : upd _ u2 _ = H15
            have s15 := new_same hH15 nu2
            have e15 := new_at hH15
            refine ⟨p, u2, _, rfl, hp14.same s15, e15, pne hp14 nu2, (by show 0 < 4; decide), (by show 4 ≤ 1000; decide), fun d2 x H16 hx k16 hp16 => ?_⟩
            have eLL16 := k16.one LLp (s15 _ _ eLL14)
            refine ⟨LL, _, _, rfl, rfl, eLL16, szl (by rw [List.length_map]; omega), ?_⟩
            generalize hH17 : upd H16 LL _ = H17
            have k17 : Keep [LL] H16 H17 := by rw [← hH17]; exact Keep.put (by simp)
            have eLL17 := new_at hH17
            dsimp only
            have hx4 : (∃ l2, x = .str (S l2) ∧ Spread [] l2 ∧ cutS (S l2) (some (-1)) none ≠ S [58]) ∨ x = .str (S (nmM i ++ [58])) := by
              match d2, hx with
              | 0, hx => exact .inl ⟨[], by rw [← str_e]; exact (Option.some.inj hx).symm, ⟨.nil, by decide, fun c h => by cases h⟩, by decide +kernel⟩
              | 1, hx => exact .inl ⟨[32, 32], by rw [← str_sp2]; exact (Option.some.inj hx).symm, ⟨.sp (.sp .nil), by decide, by unfold Vis; decide⟩, by decide +kernel⟩
              | 2, hx => exact .inl ⟨[59, 32, 110, 111, 112], by rw [← str_nop]; exact (Option.some.inj hx).symm, ⟨.rem _, by decide, by unfold Vis; decide⟩, by decide +kernel⟩
              | 3, hx => exact .inr (Option.some.inj hx).symm
              | d2 + 4, hx => cases hx
            have kD : Keep [p, LL, G, D] H5 H17 := fun b o hb e => by
              have hb' : b ≠ p ∧ b ≠ LL ∧ b ≠ G ∧ b ≠ D := by simpa using hb
              exact k17.one hb'.2.1 (k16.one hb'.1 (s15 _ _ (kC b o hb e)))
            have eD17 := k17.one (Ne.symm LD) (k16.one Dp (s15 _ _ eD14))
            have eG17 := k17.one (Ne.symm LG) (k16.one Gp (s15 _ _ eG14))
            have ha17 := k17.one haL (k16.one hap (s15 _ _ ha14))
            have hp17 : PotOk H17 p := hp16.keep k17 (by simpa using Ne.symm LLp)
            have ema17 : H17 ma = some (.lst (ml.map V.int)) := k17.one mL (k16.one mp (s15 _ _ (k14.one mp (k13.one mL (k12.one mp (s911 _ _ (k9.one mG ema)))))))
            rcases hx4 with ⟨l2, rfl, hs2, hc2⟩ | rfl
            · refine ⟨_, rfl, _, rfl, LL, _, -1, .str (S l2), rfl, rfl, .inl (.inl eLL17), atI_last _ _, ?_⟩
              refine ⟨_, rfl, _, rfl, _, rfl, sz (by rw [S_len]; have := hs2.2.1; omega), rfl, _, rfl, ?_⟩
              rw [show decide (V.str (cutS (S l2) (some (-1)) none) = V.str (S [58])) = false from decide_eq_false (fun z => hc2 (V.str.inj z))]
              refine iteF ?_
              obtain ⟨s2', rws2, hGb, _, hcb⟩ := hGn'.blank (by rw [hsp']; omega)
              refine ⟨lwA ++ [([], l2)], mtl, s2', rws2, _, _, _, _, _, _, rfl, kD, hp17, by rw [List.map_append]; exact hGb, by rw [eLL17, List.map_append]; rfl, eD17, by rw [hcb]; exact eG17, fun d hd => ?_, by rw [List.length_append]; show lwA.length + 1 ≤ _; omega, by omega⟩
              rcases List.mem_append.mp hd with m | m
              · exact hspA d m
              · rw [List.mem_singleton] at m
                rw [m]
                exact ⟨hs2, Nat.zero_le _⟩
            · refine ⟨_, rfl, _, rfl, LL, _, -1, .str (S (nmM i ++ [58])), rfl, rfl, .inl (.inl eLL17), atI_last _ _, ?_⟩
              have hcl : cutS (S (nmM i ++ [58])) (some (-1)) none = S [58] := last_m ⟨i, by omega⟩
              refine ⟨_, rfl, _, rfl, _, rfl, sz (by rw [S_len, List.length_append]; show _ + 1 ≤ _; omega), rfl, _, rfl, ?_⟩
              rw [hcl, show decide (V.str (S [58]) = V.str (S [58])) = true from decide_eq_true rfl]
              refine iteT ?_
              obtain ⟨s2', rws2, hGb, _, hcb⟩ := hGn'.label hG6.ms (by omega) (by omega) (by rw [hsp']; omega)
              refine ⟨_, rfl, a, _, 3, _, rfl, rfl, .inl (.inl ha17), atI_nat (j := 3) rfl, _, rfl, ma, _, rfl, .inl (.inl (.inl ema17)), _, _, rfl, rfl, _, rfl, _, rfl, _, rfl, log2_few (by omega), _, _, rfl, rfl, sz (by omega), ?_⟩
              rw [hmt]
              have hput : ∀ q ∈ namesT 0 its ++ mtl, q.1 ≠ nmM i := fun q hq z => by
                rcases List.mem_append.mp hq with m | m
                · obtain ⟨j, _, j2, j3⟩ := namesT_mem m
                  rcases j3 with j3 | j3 <;> rw [j3] at z
                  · cases (nmK_inj (a := .c) (b := .m) (by omega) (by omega) z).1
                  · cases (nmK_inj (a := .l) (b := .m) (by omega) (by omega) z).1
                · obtain ⟨j, j1, j2, _⟩ := hG6.ms.2 q m
                  rw [j2] at z
                  have := (nmK_inj (a := .m) (b := .m) (by omega) (by omega) z).2
                  omega
              refine ⟨D, _, rfl, DPut.k (k := Sum.inr (S (nmM i))) eD17 (szl (by rw [toldK_len, List.length_append]; omega)), ?_⟩
              have ev : ((fun i j => V.int (i + j)) (it.place : Int) ((List.map V.int ml).length : Int)) = V.int (s'.place : Int) := by
                have h9 : s'.place = it.place + ml.length := by rw [hsp', hmll]; rfl
                rw [List.length_map, h9]
                rfl
              rw [ev, toldK_put hput, List.append_assoc]
              generalize hH18 : upd H17 D _ = H18
              have k18 : Keep [D] H17 H18 := by rw [← hH18]; exact Keep.put (by simp)
              have eD18 := new_at hH18
              refine ⟨lwA ++ [([nmM i ++ [58]], nmM i ++ [58])], _, s2', rws2, _, _, _, _, _, _, rfl, (fun b o hb e => ?_), hp17.keep k18 (by simpa using Ne.symm Dp), by rw [List.map_append]; exact hGb, ?_, eD18, ?_, fun d hd => ?_, ?_, ?_⟩
              · have hb' : b ≠ p ∧ b ≠ LL ∧ b ≠ G ∧ b ≠ D := by simpa using hb
                exact k18.one hb'.2.2.2 (kD b o hb e)
              · rw [k18.one LD eLL17, List.map_append]
                rfl
              · rw [hcb]
                exact k18.one GD eG17
              · rcases List.mem_append.mp hd with m | m
                · exact hspA d m
                · rw [List.mem_singleton] at m
                  rw [m]
                  have hw := lineW_label ⟨i, by omega⟩
                  refine ⟨⟨?_, by dsimp only; rw [List.length_append]; show _ + 1 ≤ _; omega, hw.2.2⟩, by show (nmM i ++ [58]).length ≤ 5000; rw [List.length_append]; show _ + 1 ≤ _; omega⟩
                  have := Toks.word hw.1 (.inl rfl) Toks.nil
                  rw [List.append_nil] at this
                  exact this
              · rw [List.length_append]
                show lwA.length + 1 ≤ _
                omega
              · rw [List.length_append]
                show mtl.length + 1 ≤ _
                omega
          · rw [show decide (V.int (d : Int) = V.int 0) = false from decide_eq_false (fun z => hd0 (by have := V.int.inj z; omega))]
            refine iteF ?_
            exact ⟨lwA, mtl, s', rws', _, _, _, _, _, _, rfl, kC, hp14, hGn', eLL14, eD14, eG14, hspA, by omega, by omega⟩
    · obtain ⟨lws, mtl, s, rws, y6, y7, y8, y9, y10, y11, rfl, k6, hp6, hG6, eLL6, eD6, eG6, hsp, hll, hml⟩ := h
      rw [hyl, hlen] at hG6 hll
      refine ⟨_, rfl, _, rfl, _, rfl, sz (by show 3 ≤ 1000000; decide), fun r nr => ?_⟩
      generalize hH7 : upd _ r _ = H7
      have s7 := new_same hH7 nr
      have e7 := new_at hH7
      have kA : Keep [p] H H7 := fun b o hb hz => by
        have z2 := k2 b o hb hz
        have b1 : b ≠ LL := ne_of_none z2 nLL
        have b2 : b ≠ G := ne_of_none (s3 _ _ z2) nG
        have b3 : b ≠ D := ne_of_none (s24 _ _ z2) nD
        have bp : b ≠ p := by simpa using hb
        exact s7 _ _ (k6 b o (by simp [bp, b1, b2, b3]) (s25 _ _ z2))
      exact q H7 r LL D G its lws mtl s rws kA (hp6.same s7) e7 LLp Dp Gp hok hlen hG6 ⟨s7 _ _ eLL6, s7 _ _ eD6, s7 _ _ eG6, hsp, by rw [hlen]; exact hll⟩
end
end K21
/-! ## K21Fin -/
set_option Elab.async false
set_option linter.all false
set_option maxRecDepth 100000
set_option maxHeartbeats 4000000
namespace K21
open PySem PySem.Spec PyProof.Rows L2
/-! what the program's own bookkeeping says about the text -/
def partsOf (rws : List (Row × List Int)) : List Part := rws.filterMap fun r => if r.2 = [] then none else some (r.1.place, r.2)
theorem partsOf_cons (r : Row × List Int) (rs : List (Row × List Int)) : partsOf (r :: rs) = if r.2 = [] then partsOf rs else (r.1.place, r.2) :: partsOf rs := by
  unfold partsOf
  rw [List.filterMap_cons]
  by_cases h : r.2 = []
  · rw [if_pos h, if_pos h]
  · rw [if_neg h, if_neg h]
theorem partsR_of {ns : List Nm} : ∀ {rws : List (Row × List Int)}, (∀ r ∈ rws, RowW ns (r.1.place : Int) r.1.st r.2 ∧ r.1.st.size ≤ 1000) → PartsR ns (rws.map (·.1)) (partsOf rws)
  | [], _ => .nil
  | r :: rs, h => by
    obtain ⟨h1, h2⟩ := h r (by simp)
    have ih := partsR_of fun x hx => h x (List.mem_cons_of_mem _ hx)
    rw [partsOf_cons]
    by_cases h0 : r.2 = []
    · rw [if_pos h0]
      rw [h0] at h1
      exact .skip h1 h2 ih
    · rw [if_neg h0]
      exact .add h1 h2 h0 ih
theorem partsOf_cells : ∀ rws : List (Row × List Int), cellsM (partsOf rws) = cellsR rws
  | [] => rfl
  | r :: rs => by
    have ih := partsOf_cells rs
    rw [partsOf_cons]
    have e : cellsR (r :: rs) = cellsOf r.1.place r.2 ++ cellsR rs := rfl
    rw [e]
    by_cases h0 : r.2 = []
    · rw [if_pos h0, h0]
      exact ih
    · rw [if_neg h0, ← ih]
      rfl
theorem partsOf_mem {rws : List (Row × List Int)} {d : Part} (h : d ∈ partsOf rws) : ∃ r ∈ rws, r.2 ≠ [] ∧ d = (r.1.place, r.2) := by
  obtain ⟨r, hr, e⟩ := List.mem_filterMap.mp h
  by_cases h0 : r.2 = []
  · rw [if_pos h0] at e; cases e
  · rw [if_neg h0] at e
    exact ⟨r, hr, h0, (Option.some.inj e).symm⟩
theorem partsOf_len (rws : List (Row × List Int)) : (partsOf rws).length ≤ rws.length := List.length_filterMap_le ..
theorem joinL_total : ∀ ls : List (List Nat), (∀ l ∈ ls, l.length ≤ 5000) → (TL.joinL [10] ls).length ≤ 5001 * ls.length
  | [], _ => Nat.le_refl _
  | [w], h => by
    have := h w (by simp)
    show w.length ≤ _
    simp
    omega
  | w :: a :: r, h => by
    have h1 := h w (by simp)
    have h2 := joinL_total (a :: r) fun x hx => h x (List.mem_cons_of_mem _ hx)
    have e : TL.joinL [10] (w :: a :: r) = w ++ ([10] ++ TL.joinL [10] (a :: r)) := rfl
    have e3 : (w :: a :: r).length = (a :: r).length + 1 := rfl
    rw [e, List.length_append, List.length_append, e3]
    show w.length + (1 + _) ≤ _
    omega
theorem joinL_last : ∀ ls : List (List Nat), ls ≠ [] → TL.joinL [10] (ls ++ [[]]) = TL.joinL [10] ls ++ [10]
  | [], h => absurd rfl h
  | [w], _ => rfl
  | w :: a :: r, _ => by
    have ih := joinL_last (a :: r) (by simp)
    have e : TL.joinL [10] (w :: a :: r) = w ++ ([10] ++ TL.joinL [10] (a :: r)) := rfl
    have e2 : TL.joinL [10] (w :: a :: r ++ [[]]) = w ++ ([10] ++ TL.joinL [10] (a :: r ++ [[]])) := rfl
    rw [e, e2, ih]
    simp
theorem good_of {its : List Item} {wss ls : List (List (List Nat))} {lines : List (List Nat)} {mtl : TL2} {s : LaySt} {rws : List (Row × List Int)} (hok : ItemsOk its) (hl : its.length ≤ 11) (hG : GI its its.length wss mtl s rws) (hp : Paired Spread wss lines) (hlen : ∀ l ∈ lines, l.length ≤ 5000) (hn : lines.length ≤ 30) (hw : wss.length ≤ 30) (hne : lines ≠ []) (hpl : s.place ≤ 200) : GoodR (S (TL.joinL [10] lines)) s.names (cellsR rws) ∧ (namesP s.names).Perm ((namesT 0 its ++ mtl).map fun q => (S q.1, q.2)) := by
  have htl := tlOk_of hok hl (by omega) hG.ms
  have hnm : s.names.Perm (tlNS (namesT 0 its ++ mtl)) := by
    have := hG.names
    rw [List.take_length] at this
    exact this
  have hnd : (s.names.map (·.1)).Nodup := by
    rw [(hnm.map (·.1)).nodup_iff, tlNS_names]
    exact htl.1
  refine ⟨⟨partsOf rws, ⟨lines, s, rfl, by have := joinL_total lines hlen; omega, hne, by omega, chain_of hG.chain hp, ?_, rfl⟩, fun d hd => ?_, hG.asc, (partsOf_cells rws).symm, by have := hG.cnt; omega, by have := partsOf_len rws; have := hG.few.1; omega, by have := hG.few.2; omega, hnd⟩, ?_⟩
  · rw [hG.rows]
    refine partsR_of fun r hr => ?_
    obtain ⟨h1, h2, _⟩ := hG.roww r hr
    exact ⟨h1.mono fun x z hz => look_perm hnm.symm hnd hz, h2⟩
  · obtain ⟨r, hr, h0, rfl⟩ := partsOf_mem hd
    obtain ⟨_, _, h3, h4⟩ := hG.roww r hr
    exact ⟨h0, by dsimp only; omega, h3⟩
  · have := hnm.map fun n => (S n.1, n.2.2)
    unfold tlNS at this
    rw [List.map_map] at this
    exact this
end K21
/-! ## K21End -/
set_option Elab.async false
set_option linter.all false
set_option maxRecDepth 100000
set_option maxHeartbeats 4000000
namespace K21
open PySem PySem.Spec PyProof.Rows L2
/-! what the law's end asks of the texts -/
def siD (d : Str × Int) : PyData := .tuple [.str d.1, .int d.2]
theorem dp_pairs (K : PySem.W.Frag) {H : Hp} : ∀ {ys : List V} {ds : List (Str × Int)}, Each PairV H ys ds → DpAll K H ys (ds.map siD)
  | [], [], _ => .nil
  | [], _ :: _, h => by cases h.1
  | _ :: _, [], h => by cases h.1
  | y :: ys, d :: ds, h => by
    obtain ⟨⟨a, e, h1⟩, ht⟩ := h.cons
    subst e
    exact .cons (.tup (.inl (.inl h1)) (.cons (.str _) (.cons (.int _) .nil))) (dp_pairs K ht)
theorem sh_pairs {ds : List (Str × Int)} (h : ∀ d ∈ ds, ∃ l, d.1 = S l ∧ Asc l) : Sh 2 (.list (ds.map siD)) := Sh.list fun x hx => by
  obtain ⟨d, hd, rfl⟩ := List.mem_map.mp hx
  obtain ⟨l, e, ha⟩ := h d hd
  refine Sh.tuple fun y hy => ?_
  rcases List.mem_cons.mp hy with q | hy
  · rw [q, e]; exact Sh.str ha
  · rw [List.mem_singleton] at hy
    rw [hy]
    exact Sh.int _
theorem lookC_one (c : Cell) (cs : List Cell) (q : Nat) : lookC (c :: cs) q = if c.1 = q then some c.2 else lookC cs q := by
  unfold lookC
  rw [List.find?_cons]
  by_cases h : c.1 = q
  · rw [if_pos h, decide_eq_true h]
    rfl
  · rw [if_neg h, decide_eq_false h]
theorem laidK_look (cs : List Cell) (q : Nat) : (valV (laidK cs) (.inl (q : Int))).getD .non = optI (lookC cs q) := by
  induction cs with
  | nil => rfl
  | cons c cs ih =>
    show (valV ((.inl (c.1 : Int), .int c.2) :: laidK cs) _).getD _ = _
    rw [lookC_one]
    by_cases h : c.1 = q
    · rw [if_pos h, valV_pos (by rw [h])]
      rfl
    · rw [if_neg h, valV_neg (fun z => h (by have := Sum.inl.inj z; omega))]
      exact ih
theorem paired_maps {α β γ : Type} {F : β → γ → Prop} {f : α → β} {g : α → γ} : ∀ {l : List α}, (∀ d ∈ l, F (f d) (g d)) → Paired F (l.map f) (l.map g)
  | [], _ => .nil
  | d :: l, h => .cons (h d (by simp)) (paired_maps fun x m => h x (List.mem_cons_of_mem _ m))
abbrev Lws : Type := List (List (List Nat) × List Nat)
def LwsOk (lws : Lws) : Prop := ∀ d ∈ lws, Spread d.1 d.2 ∧ (TL.joinL [32] d.1).length ≤ 5000
/-- a text of no line is a text of one empty line -/
theorem norm_lines {its : List Item} {lws : Lws} {mtl : TL2} {s : LaySt} {rws : List (Row × List Int)} (hG : GI its its.length (lws.map (·.1)) mtl s rws) (hp : s.place ≤ 960) (hs : LwsOk lws) (hn : lws.length ≤ 22) :
    ∃ (lw2 : Lws) (s2 : LaySt) (rw2 : List (Row × List Int)), lw2 ≠ [] ∧ lw2.length ≤ 22 ∧ GI its its.length (lw2.map (·.1)) mtl s2 rw2 ∧ s2.place = s.place ∧ cellsR rw2 = cellsR rws ∧ LwsOk lw2 ∧
      TL.joinL [10] (lw2.map (·.2)) = TL.joinL [10] (lws.map (·.2)) ∧ TL.joinL [10] (lw2.map fun d => plainM d.1 d.2) = TL.joinL [10] (lws.map fun d => plainM d.1 d.2) := by
  cases lws with
  | nil =>
    obtain ⟨s2, rw2, g1, g2, g3⟩ := hG.blank hp
    refine ⟨[([], [])], s2, rw2, by simp, by show 1 ≤ 22; decide, g1, g2, g3, fun d hd => ?_, rfl, rfl⟩
    rw [List.mem_singleton] at hd
    rw [hd]
    exact ⟨⟨.nil, by decide, fun c h => by cases h⟩, by decide⟩
  | cons d r => exact ⟨d :: r, s, rws, by simp, hn, hG, rfl, rfl, hs, rfl, rfl⟩
def namesL (its : List Item) (mtl : TL2) : List (Str × Int) := (namesT 0 its ++ mtl).map fun q => (S q.1, q.2)
theorem texts_good {its : List Item} {lws : Lws} {mtl : TL2} {s : LaySt} {rws : List (Row × List Int)} (hok : ItemsOk its) (hl : its.length ≤ 11) (hG : GI its its.length (lws.map (·.1)) mtl s rws) (hs : LwsOk lws) (hn : lws.length ≤ 22) :
    (∀ tl, tl = [] ∨ tl = [10] → ∃ ns, GoodR (S (TL.joinL [10] (lws.map (·.2)) ++ tl)) ns (cellsR rws) ∧ (namesP ns).Perm (namesL its mtl)) ∧ (∃ ns, GoodR (S (TL.joinL [10] (lws.map fun d => plainM d.1 d.2))) ns (cellsR rws)) ∧ (∀ c ∈ cellsR rws, c.1 < 960) ∧ TlOk (namesT 0 its ++ mtl) := by
  have hpl : s.place ≤ 140 := by
    rw [hG.place]
    have := hok.end_le its.length (Nat.le_refl _)
    omega
  have hlow := hG.low
  have htl := tlOk_of hok hl (show its.length ≤ 11 from hl) hG.ms
  obtain ⟨lw2, s2, rw2, hne, hn2, hG2, hp2, hc2, hs2, e1, e2⟩ := norm_lines hG (by omega) hs hn
  rw [← hc2, ← e1, ← e2]
  have l5 : ∀ l ∈ lw2.map (·.2), l.length ≤ 5000 := fun l hl => by
    obtain ⟨d, hd, rfl⟩ := List.mem_map.mp hl
    exact (hs2 d hd).1.2.1
  have nml : lw2.map (·.2) ≠ [] := fun z => hne (List.map_eq_nil_iff.mp z)
  refine ⟨fun tl h => ?_, ?_, by rw [hc2]; exact fun c hc => by have := hlow c hc; omega, htl⟩
  · rcases h with rfl | rfl
    · rw [List.append_nil]
      exact ⟨_, good_of (ls := []) hok hl hG2 (paired_maps fun d hd => (hs2 d hd).1) l5 (by rw [List.length_map]; omega) (by rw [List.length_map]; omega) nml (by omega)⟩
    · obtain ⟨s3, rw3, hG3, hp3, hc3⟩ := hG2.blank (by omega)
      rw [← joinL_last _ nml, ← hc3]
      have pr : Paired Spread (lw2.map (·.1) ++ [[]]) (lw2.map (·.2) ++ [[]]) := by
        have := paired_maps (F := Spread) (f := (·.1)) (g := (·.2)) (l := lw2 ++ [([], [])]) fun d hd => by
          rcases List.mem_append.mp hd with m | m
          · exact (hs2 d m).1
          · rw [List.mem_singleton] at m
            rw [m]
            exact ⟨.nil, by decide, fun c h => by cases h⟩
        rw [List.map_append, List.map_append] at this
        exact this
      refine ⟨_, good_of (ls := []) hok hl hG3 pr (fun l hl => ?_) (by rw [List.length_append, List.length_map]; show _ + 1 ≤ 30; omega) (by rw [List.length_append, List.length_map]; show _ + 1 ≤ 30; omega) (by simp) (by omega)⟩
      rcases List.mem_append.mp hl with m | m
      · exact l5 l m
      · rw [List.mem_singleton] at m
        rw [m]
        exact Nat.zero_le _
  · refine ⟨_, (good_of (ls := []) hok hl hG2 (paired_maps fun d hd => (hs2 d hd).1.plain (hs2 d hd).2) (fun l hl => ?_) (by rw [List.length_map]; omega) (by rw [List.length_map]; omega) (fun z => hne (List.map_eq_nil_iff.mp z)) (by omega)).1⟩
    obtain ⟨d, hd, rfl⟩ := List.mem_map.mp hl
    exact ((hs2 d hd).1.plain (hs2 d hd).2).2.1
theorem names_asc {its : List Item} {mtl : TL2} (h : TlOk (namesT 0 its ++ mtl)) : ∀ d ∈ namesL its mtl, ∃ l, d.1 = S l ∧ Asc l := fun d hd => by
  obtain ⟨q, hq, rfl⟩ := List.mem_map.mp hd
  obtain ⟨k, j, hj, e, _⟩ := h.2 q hq
  refine ⟨q.1, rfl, ?_⟩
  have hg : goodW q.1 = true := by rw [e]; exact nmK_good hj
  exact fun c hc => by have := ((goodW_ok hg).1.2.2 c hc).2; omega
end K21
/-! ## XF -/
set_option Elab.async false
set_option linter.all false
set_option maxRecDepth 100000
set_option maxHeartbeats 4000000
namespace K21
open PySem PySem.Spec PyProof.Rows L2 C8
local macro_rules | `(tactic| walk_at "adv") => `(tactic| repeat (first | refine ⟨_, rfl, ?_⟩ | refine ⟨rfl, ?_⟩ | refine ⟨_, _, rfl, rfl, ?_⟩ | refine iteT ?_ | refine iteF ?_))

theorem first_places {cs : List Cell} (h : ∀ c ∈ cs, c.1 < 960) : ∀ v ∈ [V.int 0, .int 1, .int 2, .int 3, .int 7, .int 20, .int 959] ++ cutV ((laidK cs).map fun kv => kV kv.1) none (some 3), ∃ n : Nat, v = .int (n : Int) ∧ n < 960 := fun v hv => by
  rcases List.mem_append.mp hv with m | m
  · have go : ∀ i ∈ [0, 1, 2, 3, 7, 20, 959], i < 960 := by decide
    have e : [V.int 0, .int 1, .int 2, .int 3, .int 7, .int 20, .int 959] = [0, 1, 2, 3, 7, 20, 959].map fun n : Nat => V.int (n : Int) := rfl
    rw [e] at m
    obtain ⟨n, hn, rfl⟩ := List.mem_map.mp m
    exact ⟨n, rfl, go n hn⟩
  · unfold cutV at m
    have m2 := List.mem_of_mem_drop (List.mem_of_mem_take m)
    unfold laidK at m2
    rw [List.map_map] at m2
    obtain ⟨c, hc, rfl⟩ := List.mem_map.mp m2
    exact ⟨c.1, rfl, h c hc⟩
theorem joinS_sum : ∀ ls : List (List Nat), (∀ l ∈ ls, l.length ≤ 5000) → ((ls.map S).map (·.length)).sum ≤ 5000 * ls.length
  | [], _ => Nat.le_refl _
  | l :: r, h => by
    have h1 := h l (by simp)
    have h2 := joinS_sum r fun x hx => h x (List.mem_cons_of_mem _ hx)
    rw [List.map_cons, List.map_cons, List.sum_cons, List.length_cons, S_len]
    omega

section
variable {P : Program} {w : World} {K : PySem.W.Frag} {mg : Str → Option Value} {base : Heap}
abbrev N_law_right : List Str := ["_law_pot_here", "_law_lines", "_law_told_here", "_law_laid", "_law_text", "_law_image", "_law_place", "_law_again", "_law_name"]
theorem sc_law_right : FnScope N_law_right ["_law_pot_here"] (defScope s_law_right) := ⟨rfl, rfl, rfl, by decide +kernel, rfl, by decide +kernel, by decide +kernel⟩
def sp_law_right (K : PySem.W.Frag) : Sp := fun vs H Q _ => ∃ p : Addr, vs = [.ref p] ∧ PotOk H p ∧ ∀ H', Q (.bl true) H'
theorem cal_law_right (T : Tx w K mg) : C8.Cal P w K mg base 12 "_law_right" (sp_law_right K) [] := by
  have c_law_program := cal_law_program (P := P) (base := base) T
  have c_assembled := cal_assembled (P := P) (base := base) T
  have c_first_bad := cal_first_bad (P := P) (base := base) T
  have c_names_of := cal_names_of (P := P) (base := base) T
  have c_law_draw := cal_law_draw (P := P) (base := base) T
  have me_Image_parts := met_Image_parts (P := P) (base := base) T
  have c_law_parts := cal_law_parts (P := P) (base := base) T
  have me_Image_word := met_Image_word (P := P) (base := base) T
  have c_law_plainer := cal_law_plainer (P := P) (base := base) T
  obtain ⟨fdS, FS, bS⟩ := prp_Image_size (P := P) (base := base) T
  obtain ⟨fE, fdE, psE, dsE, cE, meE, FE, bE, dE⟩ := (met_Image_eq (P := P) (base := base) T).ex
  cases dE
  refine cal_of (st := s_law_right) (ps := ["_law_pot_here"]) T.d_law_right T.m_law_right sc_law_right (fun _ _ _ _ _ _ us hl => match us, hl with | [_], _ => rfl) (fun vs H Q E h => ?_) (fun cdv A outer s H vs Q E hr h => ?_)
  · obtain ⟨p, rfl, _⟩ := h
    rfl
  · obtain ⟨p, rfl, hp, q⟩ := h
    refine ⟨_, (pss_cons (ps_asg (pe_c c_law_program hr (by decide) (by rfl) (pa_cons (pv 0) (pa_cons (pe_op op_add pe_int (pe_c c_law_draw hr (by decide) (by rfl) (pa_cons (pv 0) (pa_cons pe_int pa_nil)))) pa_nil))) (pg_tup rfl (pgs_cons (pg_name (i := 1) sc_law_right.nd rfl (Or.inl rfl)) (pgs_cons (pg_name (i := 2) sc_law_right.nd rfl (Or.inr rfl)) (pgs_cons (pg_name (i := 3) sc_law_right.nd rfl (Or.inl rfl)) pgs_nil)))))
      (pss_cons (ps_set (i := 4) sc_law_right.nd rfl (Or.inl rfl) (pe_op op_add_str (pe_join pe_str (pv 1)) (pe_ifExp (pt_cmpR op_eq (pe_c c_law_draw hr (by decide) (by rfl) (pa_cons (pv 0) (pa_cons pe_int pa_nil))) pe_int (nomark _)) pe_str pe_str)))
      (pss_cons (ps_if (pt_cmpR op_notN (pe_c c_first_bad hr (by decide) (by rfl) (pa_cons (pv 4) pa_nil)) pe_non (nomark _))
        (pss_one (ps_ret pe_bl))
        pss_nil)
      (pss_cons (ps_set (i := 5) sc_law_right.nd rfl (Or.inl rfl) (pe_c c_assembled hr (by decide) (by rfl) (pa_cons (pv 4) pa_nil)))
      (pss_cons (ps_if (PW.pt (pw_or (pt_cmpR (op_neD hr.units) (pe_mt0 me_Image_parts hr (by decide) (pv 5)) (pe_c c_law_parts hr (by decide) (by rfl) (pa_cons (pv 3) pa_nil)) (nomark _)) (pw_or1 (pt_cmpR op_ne (pe_prop (pv 5) T.cl_Image T.prop_size FS (hr.mono (by decide)) bS .nil L2.pass0 rfl) (pe_callB call_lenD (by rfl) T.f_len (by decide +kernel) (pa_cons (pv 3) pa_nil)) (nomark _)))))
        (pss_one (ps_ret pe_bl))
        pss_nil)
      (pss_cons (ps_if (pt_cmpR (op_neD hr.units) (pe_ck (calk_names_of T) hr (by decide) (by rfl) (pk_cons (pv 4) pk_nil)) (pe_callB cr_sortedSI (by rfl) T.f_sorted (by decide +kernel) (pa_cons (pe_lock (pe_lc (own := [("_law_name", 8)]) (g := gName 8) (tt := tYes) rfl sc_law_right.nd (pi_keys (pv 2)) (blkOk_by (own := [("_law_name", 8)]) (N := N_law_right) (sc := defScope s_law_right) (by decide +kernel)) (fun _ _ _ _ _ => pg_name (i := 8) sc_law_right.nd rfl (Or.inl rfl)) (fun _ _ _ _ _ => pts_nil) (fun _ _ _ _ _ => (pe_tup (pa_cons (pv 8) (pa_cons (pe_dget (by exact hu_of hr) (pv 2) (pv 8) (fun _ _ => rfl)) pa_nil)))))) pa_nil)) (nomark _))
        (pss_one (ps_ret pe_bl))
        pss_nil)
      (pss_cons (ps_for PassesOwn.never rfl (pi_list (pe_op op_cat (pe_lst (pa_cons pe_int (pa_cons pe_int (pa_cons pe_int (pa_cons pe_int (pa_cons pe_int (pa_cons pe_int (pa_cons pe_int pa_nil)))))))) (pe_slice sl_list (pe_callTy (call_listD rfl) (by rfl) T.f_list (by decide +kernel) (pa_cons (pv 3) pa_nil)) po_none (po_some pe_int)))) (pg_name (i := 6) sc_law_right.nd rfl (Or.inl rfl))
        (pss_one (ps_if (pt_cmpR op_ne (pe_mt me_Image_word hr (by decide) (pv 5) (pa_cons (pv 6) pa_nil)) (pe_dget1 (by exact hu_of hr) (pv 3) (pv 6) ⟨rfl, rfl, rfl, rfl⟩) (nomark _))
          (pss_one (ps_ret pe_bl))
          pss_nil)))
      (pss_cons (ps_set (i := 7) sc_law_right.nd rfl (Or.inl rfl) (pe_ck (calk_assembled T) hr (by decide) (by rfl) (pk_cons (pe_join pe_str (pe_c c_law_plainer hr (by decide) (by rfl) (pa_cons (pv 1) pa_nil))) pk_nil)))
      (pss_one (ps_ret (pe_and (pe_cmpR (op_eqG (rcG_ins (E := L2.E0) FE meE.at_ meE.fn bE C8.pass0) (hr.mono (by decide))) (pv 7) (pv 5) (nomark _)) (pe_one (pe_cmpR op_isN (pe_ck (calk_first_bad T) hr (by decide) (by rfl) (pk_cons (pv 4) pk_nil)) pe_non (nomark _)))))))))))))), ?_⟩
    refine ⟨_, rfl, _, rfl, p, 10, rfl, hp, by decide, by decide, fun d H1 hd k1 hp1 => ?_⟩
    refine ⟨_, _, rfl, rfl, p, 2 + d, congrArg (fun z => [V.ref p, V.int z]) (show (2 : Int) + (d : Int) = ((2 + d : Nat) : Int) by omega), hp1, by omega, fun H2 r LL D G its lws mtl s rws k2 hp2 er LLp Dp Gp hok hlen hG hR => ?_⟩
    obtain ⟨eLL, eD, eG, hsp, hll⟩ := hR
    rw [← hlen] at hG
    obtain ⟨hT, ⟨nsP, hTP⟩, hlow, htl⟩ := texts_good hok (by omega) hG hsp (by omega)
    refine ⟨r, _, rfl, .inl (.inl er), rfl, _, _, rfl, _, _, rfl, _, _, rfl, rfl, ?_⟩
    have eLL2 : H2 LL = some (.lst (((lws.map (·.2)).map S).map V.str)) := by
      rw [eLL, List.map_map, List.map_map]
      rfl
    refine ⟨⟨_, rfl⟩, _, rfl, _, LL, (lws.map (·.2)).map S, rfl, rfl, .inl (.inl (.inl eLL2)), ?_, ?_⟩
    · have hjs := joinS_sum (lws.map (·.2)) fun l hl => by
        obtain ⟨e, he, rfl⟩ := List.mem_map.mp hl
        exact (hsp e he).1.2.1
      rw [List.length_map] at hjs
      rw [List.length_map, List.length_map, str_nl, S_len]
      show _ + _ * 1 ≤ _
      omega
    · rw [str_nl, SX.join_S]
      dsimp only
      refine te_R (fun v H3 => ∃ tl, v = .str (S tl) ∧ (tl = [] ∨ tl = [10]) ∧ Keep [p] H2 H3 ∧ PotOk H3 p) (fun v H3 hv => ?_) (fun Q' key => ?_)
      rotate_left
      · refine ⟨_, rfl, p, 2, rfl, hp2, by decide, by decide, fun d2 H3 hd2 k3 hp3 => ⟨rfl, _, rfl, ?_⟩⟩
        by_cases h0 : d2 = 0
        · exact iteDT (by rw [h0]; rfl) (key _ _ ⟨[10], rfl, .inr rfl, k3, hp3⟩)
        · exact iteDF (fun z => h0 (by have := V.int.inj z; omega)) (key _ _ ⟨[], congrArg V.str str_e, .inl rfl, k3, hp3⟩)
      · obtain ⟨tl, rfl, htl2, k3, hp3⟩ := hv
        refine ⟨_, _, rfl, rfl, sz ?_, ?_⟩
        · have h1 := joinL_total (lws.map (·.2)) fun l hl => by
            obtain ⟨e, he, rfl⟩ := List.mem_map.mp hl
            exact (hsp e he).1.2.1
          rw [List.length_map] at h1
          have h2 : tl.length ≤ 1 := by rcases htl2 with rfl | rfl <;> decide
          rw [S_len, S_len]
          omega
        · rw [S_cat]
          obtain ⟨ns, hGd, hNm⟩ := hT tl htl2
          generalize TL.joinL [10] (lws.map (·.2)) ++ tl = zt at hGd ⊢
          obtain ⟨ps, hGone, hpok, hasc, hcs, hcl, hpl, hnl, hnd⟩ := id hGd
          have eLL3 := k3.one LLp eLL
          have eD3 := k3.one Dp eD
          have eG3 := k3.one Gp eG
          generalize hcc : cellsR rws = cs at *
          have hml := merge_len cs
          refine ⟨_, rfl, _, ns, ps, rfl, hGone, fun H4 s4 => ⟨rfl, _, rfl, iteNF rfl ?_⟩⟩
          refine ⟨_, rfl, _, ns, cs, rfl, hGd, fun H5 x s5 hI5 => ?_⟩
          obtain ⟨dx, pp, ex, hPt⟩ := id hI5
          have s35 := s4.trans s5
          refine ⟨_, rfl, x, dx, _, rfl, ex, rfl, x, mergeM cs, rfl, hI5, by omega, fun H6 L1 ys1 s6 e6 hE6 => ?_⟩
          have s36 := s35.trans s6
          refine ⟨_, rfl, G, cs, rfl, s36 _ _ eG3, hasc, hcl, fun H7 L2 ys2 s7 e7 hE7 => ?_⟩
          refine ⟨_, _, .lst (.inl (.inl (s7 _ _ e6))) (dp_parts K (each_some s7 hE6)), .lst (.inl (.inl e7)) (dp_parts K hE7), (sh_parts _).shaped (by decide), (sh_parts _).shaped (by decide), _, rfl, ?_⟩
          rw [(sh_parts (mergeM cs)).refl]
          refine iteF ?_
          have s37 := s36.trans s7
          have s57 := s6.trans s7
          refine ⟨_, rfl, x, dx, _, rfl, s57 _ _ ex, x, mergeM cs, rfl, hI5.same s57, by omega, fun H8 s8 => ?_⟩
          have s38 := s37.trans s8
          refine ⟨_, rfl, G, _, rfl, s38 _ _ eG3, rfl, _, rfl, iteNF (by rw [cells_merge]; unfold laidK; rw [List.length_map]) ?_⟩
          refine ⟨_, rfl, _, ns, cs, rfl, hGd, fun H9 D9 ys9 ds9 s9 e9 hE9 hsr9 hpm9 => ?_⟩
          have s39 := s38.trans s9
          have eD9 := s39 _ _ eD3
          have hTLl : (namesT 0 its ++ mtl).length ≤ 1000 := by
            have := hNm.length_eq
            unfold namesL namesP at this
            rw [List.length_map, List.length_map] at this
            omega
          refine ⟨D, _, eD9, trivial, fun od => ?_⟩
          generalize hH10 : upd H9 D _ = H10
          have k10 : Keep [D] H9 H10 := by rw [← hH10]; exact Keep.put (by simp)
          have e10 : H10 D = some (.frz od (.dK (toldK (namesT 0 its ++ mtl)))) := new_at hH10
          refine ⟨_, rfl, D, od, rfl, .inl ⟨_, e10, fun U hU => ?_⟩⟩
          refine lc_pure walk_keys hU (by rw [toldK_len]; omega) (fun i y H => ∀ n, (namesT 0 its ++ mtl)[i]? = some n → PairV y (S n.1, n.2) H) (fun Ha sa => sa _ _ e10) (fun i y Ha Hb hl k h n hn => (h n hn).keep (NoTup.one hl.choose_spec) k) (fun i y Ha Hb C Cf hi sa hacc hy k => ?_) (fun Ha ysa sa hla ea hra => ?_)
          · obtain ⟨rfl, key, v, hkv, rfl⟩ := hy
            have hkv2 := hkv
            unfold toldK at hkv2
            rw [List.getElem?_map] at hkv2
            obtain ⟨n, hn, en⟩ := Option.map_eq_some_iff.mp hkv2
            obtain ⟨rfl, rfl⟩ := Prod.mk.inj en
            refine ⟨rfl, yes_in ⟨_, rfl, _, rfl, _, rfl, D, .int n.2, rfl, .inl ⟨_, .inr (S n.1), .inr ⟨od, sa _ _ e10⟩, rfl, ?_⟩, sz (by show 2 ≤ 1000000; decide), fun u nu => ?_⟩⟩
            · exact (toldK_some htl.1 (List.mem_of_getElem? hn)).symm
            · generalize hHc : upd _ u _ = Hc
              have sc := new_same hHc nu
              have ec := new_at hHc
              refine k _ Hc sc fun m hm => ?_
              rw [hn] at hm
              rw [← Option.some.inj hm]
              exact ⟨u, rfl, ec⟩
          · refine ⟨sa _ _ e10, ?_⟩
            generalize hHb : upd Ha D _ = Hb
            have kb : Keep [D] Ha Hb := by rw [← hHb]; exact Keep.put (by simp)
            have eb : Hb D = some (.dK (toldK (namesT 0 its ++ mtl))) := new_at hHb
            have na : NoTup [D] Ha := fun a m xs e => by
              have : a = D := by simpa using m
              rw [this, sa _ _ e10] at e
              cases e
            have s9b : Same H9 Hb := fun b o e => by
              by_cases hb : b = D
              · rw [hb, eD9] at e
                rw [hb, eb, Option.some.inj e]
              · exact kb.one hb (sa _ _ (k10.one hb e))
            have UD : U ≠ D := fun z => by rw [z, e10] at hU; cases hU
            have hEb : Each PairV Hb ysa (namesL its mtl) := by
              refine ⟨by rw [hla, toldK_len]; exact (List.length_map ..).symm, fun i y dd h1 h2 => ?_⟩
              unfold namesL at h2
              rw [List.getElem?_map] at h2
              obtain ⟨n, hn, rfl⟩ := Option.map_eq_some_iff.mp h2
              exact (hra i y h1 n hn).keep na kb
            refine ⟨U, ysa, kSI Hb, rfl, .inl (.inl (kb.one UD ea)), fun y hy => ?_, fun zs r2 g1 g2 nr => ?_⟩
            · obtain ⟨c, _, hc⟩ := hEb.all y hy
              rw [kSI_pair hc]
              exact hc
            · obtain ⟨dsb, f1, f2, f3⟩ := pairs_sorted hEb g1 g2
              generalize hHc : upd Hb r2 _ = Hc
              have sc := new_same hHc nr
              have ec := new_at hHc
              have eds : dsb = ds9 := si_uniq f2 hsr9 (f3.trans (hpm9.trans hNm).symm)
              subst eds
              have hSh : Sh 2 (.list (dsb.map siD)) := sh_pairs fun dd hd => names_asc htl dd (f3.mem_iff.mp hd)
              have s9c := s9b.trans sc
              refine ⟨_, _, .lst (.inl (.inl (s9c _ _ e9))) (dp_pairs K (hE9.imp fun y dd z => z.keep NoTup.nil (Keep.of_same s9c))), .lst (.inl (.inl ec)) (dp_pairs K (f1.imp fun y dd z => z.keep NoTup.nil (Keep.of_same sc))), hSh.shaped (by decide), hSh.shaped (by decide), _, rfl, ?_⟩
              rw [hSh.refl]
              refine iteF ?_
              have s3c := s39.trans s9c
              have s5c := s57.trans (s8.trans (s9.trans s9c))
              refine ⟨sz (by show 7 ≤ 1000000; decide), fun a7 na7 => ?_⟩
              generalize hHd : upd Hc a7 _ = Hd
              have sd := new_same hHd na7
              have ed : Hd a7 = some (.lst [.int 0, .int 1, .int 2, .int 3, .int 7, .int 20, .int 959]) := new_at hHd
              have eGd := sd _ _ (s3c _ _ eG3)
              refine ⟨_, rfl, G, laidK cs, rfl, .inl eGd, fun b nb => ?_⟩
              generalize hHe : upd Hd b _ = Hx
              have se := new_same hHe nb
              have ee := new_at hHe
              refine ⟨_, rfl, b, _, rfl, .inl (.inl ee), fun c nc => ?_⟩
              generalize hHf : upd _ c _ = Hf
              have sf := new_same hHf nc
              have ef := new_at hHf
              refine ⟨a7, c, _, _, rfl, rfl, sf _ _ (se _ _ ed), ef, sz ?_, fun e ne => ?_⟩
              · have := cutV_length ((laidK cs).map fun kv => kV kv.1) none (some 3)
                unfold laidK at this ⊢
                rw [List.length_map, List.length_map] at this
                show 7 + _ ≤ _
                omega
              generalize hHg : upd _ e _ = Hg
              have sg := new_same hHg ne
              have eg := new_at hHg
              have hall := first_places hlow
              generalize [V.int 0, .int 1, .int 2, .int 3, .int 7, .int 20, .int 959] ++ cutV ((laidK cs).map fun kv => kV kv.1) none (some 3) = xs at eg hall
              have scg := sd.trans (se.trans (sf.trans sg))
              have eGg := scg _ _ (s3c _ _ eG3)
              have eLLg := scg _ _ (s3c _ _ eLL3)
              have exg := scg _ _ (s5c _ _ ex)
              have hIg : ImgAt (He.ga K "Image") Hg x (mergeM cs) := hI5.same (s5c.trans scg)
              refine ⟨e, rfl, ⟨_, .inl (.inl eg)⟩, ?_⟩
              refine for_it (walk_list (xs := xs)) (fun _ σ H => ∃ y6 : Option V, σ = [some (.ref p), some (.ref LL), some (.ref D), some (.ref G), some (.str (S zt)), some (.ref x), y6, none, none] ∧ H = Hg) ⟨none, rfl, rfl⟩ (fun i σ Hz _ h => ?_) (fun i v σ Hy Hz hi h y => ?_) (fun σ Hz h => ?_)
              · obtain ⟨_, _, eH⟩ := h
                rw [eH]
                exact .inl (.inl eg)
              · obtain ⟨y6, rfl, eH⟩ := h
                obtain ⟨eH2, hv⟩ := y
                rw [eH] at eH2
                rw [eH2]
                obtain ⟨n, rfl, hn⟩ := hall v (List.mem_of_getElem? hv)
                refine ⟨_, rfl, x, dx, _, rfl, exg, rfl, _, rfl, x, mergeM cs, n, rfl, hIg, hn, ?_⟩
                rw [cells_merge]
                refine ⟨_, rfl, G, rfl, .inl ⟨_, .inl eGg⟩, _, rfl, _, DGet.k (k := Sum.inl (n : Int)) eGg, ?_⟩
                rw [laidK_look]
                exact ⟨by cases lookC cs n <;> rfl, _, rfl, iteNF rfl ⟨_, rfl, rfl⟩⟩
              · obtain ⟨y6, rfl, eH⟩ := h
                rw [eH]
                refine ⟨⟨_, rfl⟩, _, rfl, LL, lws, rfl, eLLg, by omega, hsp, fun Hh PD sh nPD ePD => ?_⟩
                have ePD2 : Hh PD = some (.lst (((lws.map fun d => plainM d.1 d.2).map S).map V.str)) := by
                  rw [ePD, List.map_map, List.map_map]
                  rfl
                refine ⟨_, PD, (lws.map fun d => plainM d.1 d.2).map S, rfl, rfl, .inl (.inl (.inl ePD2)), ?_, ?_⟩
                · have hjs := joinS_sum (lws.map fun d => plainM d.1 d.2) fun l hl => by
                    obtain ⟨e, he, rfl⟩ := List.mem_map.mp hl
                    exact ((hsp e he).1.plain (hsp e he).2).2.1
                  rw [List.length_map] at hjs
                  rw [List.length_map, List.length_map, S_len]
                  show _ + _ * 1 ≤ _
                  omega
                · rw [SX.join_S]
                  refine ⟨_, nsP, cs, rfl, hTP, fun Hi y si hIy => ?_⟩
                  obtain ⟨dy, py, ey, hPy⟩ := id hIy
                  have sgi := sh.trans si
                  refine ⟨_, rfl, _, rfl, ⟨y, x, dy, dx, _, _, rfl, rfl, ey, sgi _ _ exg, mergeM cs, hIy, hIg.same sgi⟩, fun Hj _ => ⟨true, rfl, iteT ?_⟩⟩
                  refine ⟨_, rfl, _, ns, ps, rfl, hGone, fun Hk _ => ⟨rfl, ?_⟩⟩
                  exact q _
abbrev N_law : List Str := ["_law_script"]
theorem sc_law : FnScope N_law ["_law_script"] (defScope s_law) := ⟨rfl, rfl, rfl, by decide +kernel, rfl, by decide +kernel, by decide +kernel⟩
def sp_law (K : PySem.W.Frag) : Sp := fun vs H Q _ => ∃ (a : Addr) (ns : List Int), vs = [.ref a] ∧ SqL K H a (ns.map V.int) ∧ ∀ H', Q (.bl true) H'
theorem bod_law (T : Tx w K mg) : BodyOk P w K mg base 12 (He.ga K "law") "law" s_law N_law (sp_law K) := by
  have c_law_right := cal_law_right (P := P) (base := base) T
  have c_law_pot := cal_law_pot (P := P) (base := base) T
  intro cdv A outer s H vs Q E hr h
  · obtain ⟨a, ns, rfl, hS, q⟩ := h
    refine ⟨_, (pss_one (ps_ret (pe_c c_law_right hr (by decide) (by rfl) (pa_cons (pe_c c_law_pot hr (by decide) (by rfl) (pa_cons (pv 0) (pa_cons pe_int pa_nil))) pa_nil)))), ?_⟩
    exact ⟨_, rfl, a, ns, rfl, hS, fun H1 p s1 np hp => ⟨p, rfl, hp, fun H2 => q H2⟩⟩
theorem cal_law (T : Tx w K mg) : C8.Cal P w K mg base 13 "law" (sp_law K) [] := cal_of (st := s_law) (ps := ["_law_script"]) T.d_law T.m_law sc_law (fun _ _ _ _ _ _ us hl => match us, hl with | [_], _ => rfl) (fun vs H Q E h => by
  obtain ⟨a, ns, rfl, _⟩ := h
  rfl) (bod_law T)
theorem calk_law (T : Tx w K mg) : CalK P w K mg base 13 "law" "_law_script" (sp_law K) := calk_of (st := s_law) T.d_law T.m_law sc_law (fun _ _ _ _ _ _ us ws hl => by
  match us, ws, hl with
  | [], [_], _ => rfl
  | [_], [], _ => rfl
  | [], [], h => cases h
  | [], _ :: _ :: _, h => simp at h
  | _ :: _ :: _, _, h => simp at h
  | [_], _ :: _, h => simp at h) (fun vs H Q E h => by
  obtain ⟨a, ns, rfl, _⟩ := h
  rfl) (bod_law T)
end
end K21
/-! ## K21Law -/
set_option Elab.async false
set_option linter.all false
set_option maxRecDepth 100000
set_option maxHeartbeats 0
namespace K21
open PySem PySem.Spec PyProof.Rows L2
theorem law_facts {P : Program} {w : World} {K : PySem.W.Frag} {h : Heap} {mg : Str → Option Value} {f : Addr} (X : K.In h) (G : h.Ns mainGlobals mg) (hfa : mg ("law" : Str) = some (.ref f)) (c : SaysZ w K) :
    ∃ fd : FuncData, (∀ (s : Shared) (v : Value), BindsTo s fd ⟨[v], []⟩ [("_law_script", v)]) ∧ ∀ base : Heap, K.In base → base.Ns mainGlobals mg → FnOk P w K mg base L2.CX0 13 f fd ["_law_script"] (sp_law K) := by
  have T : Tx w K mg := ⟨c, h, X, G⟩
  obtain ⟨fd, F⟩ := T.d_law
  have e := hfa.symm.trans T.m_law
  cases e
  have b := FunD.bindsA (ps := ["_law_script"]) F fun _ _ _ _ _ _ us hl => match us, hl with | [_], _ => rfl
  refine ⟨fd, fun s v => b s [v] rfl, fun base _ _ => F.ok sc_law (fun vs H Q E h => ?_) fun cdv A outer s H vs Q E hr h => ?_⟩
  · obtain ⟨a, ns, rfl, _⟩ := h
    rfl
  · obtain ⟨t, h1, h2⟩ := bod_law (P := P) (base := base) T cdv A outer s H vs Q E hr h
    exact ⟨t, PSs.nox h1, h2⟩
end K21
open PySem PySem.W PySem.Calls PyProof.Rows
theorem PySem.Challenge.cw_orderlycore_k21_whole_texts_assembled_holds : PySem.Challenge.rw_orderlycore_k21_whole_texts_assembled.Holds := by
  w_on; o_law
  refine HandSHeadRun.head_any (r := K21.R) (q := view K21.R.prog [100]) (H := K21.hk) (ob := K21.ob) (M := 60000) (loose := K21.loose) (d := HandSHeadRun.topDef K21.R.prog 100) (kwd := []) K21.ob_eq
    (by kernel_rfl) (fun s => by kernel_rfl) K21.run (by kernel_rfl) (by kernel_rfl) (by kernel_rfl) (by rfl) (by first | assumption | decide +kernel) (by decide +kernel) ⟨rfl, rfl, rfl, rfl, rfl, by decide +kernel⟩ ?hw ?hc
  case hw => w_witness2
  case hc =>
    refine L2.walk_ofE (l := PySem.Challenge.rw_orderlycore_k21_whole_texts_assembled) (n := 63) (k := 13) (x := "_law_script") (CX := L2.CX0) rfl (by decide) (by kernel_rfl) ⟨rfl, by decide, by decide⟩ ?F (fun _ _ _ _ z => z)
    intro w mg fa h Y G hmg0
    obtain ⟨K, KX, c⟩ := Y
    have hmg : mg ("law" : PySem.Str) = some (.ref fa) := by
      have e : (HandSHeadRun.topDef K21.R.prog 100).name = ("law" : PySem.Str) := by kernel_rfl
      rw [← e]
      exact hmg0
    obtain ⟨fd, hb, hF⟩ := K21.law_facts (P := (PySem.Challenge.rw_orderlycore_k21_whole_texts_assembled).prog) (w := w) KX G hmg c
    exact ⟨K, fd, K21.sp_law K, KX, hb, fun H a ns hl _ hS => ⟨a, ns, rfl, hS, fun _ => rfl⟩, hF⟩
