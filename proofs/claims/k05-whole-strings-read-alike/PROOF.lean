import PyProof.Rows.All
import Wide.All
import OpenK.AllK
import Wide.FinOn
import KE.KStateDown
import Lean
import HandS.Codes
import HandS.Defaults
import HandS.Ends
import HandS.Exc
import HandS.FStr
import HandS.ForMost
import HandS.GenList
import HandS.Head0
import HandS.Head1
import HandS.Head2
import HandS.HeadEnd
import HandS.HeadHook1
import HandS.HeadHook2
import HandS.HeadHook3
import HandS.HeadHook4
import HandS.IsInst
import HandS.List
import HandS.More
import HandS.NoneIn
import HandS.Rev
import HandS.RevTup
import HandS.StrMore
import HandS.Style
import HandS.Text
import HandS.TupAny
import HandS.Walk
import HandS.Wide
import HandS.Zip
import KE.GoesEnum
import KE.GoesEnumKw
import KE.GoesMore
import KE.GoesNew
import PyProof.ReprBulk
import PyProof.ReprRoads
import PyProof.Rows.MatchSeqLen
import PyProof.RulesMatchSeq
import PySem.Challenge.RW_narrowplay_k05_whole_strings_that_are_re
set_option Elab.async false
set_option linter.all false
set_option maxRecDepth 100000
set_option maxHeartbeats 0
/-! NPDefs -/
namespace NP
open PySem PySem.Spec PyProof.Rows L2

def topS (i : Nat) : Stmt := PySem.Challenge.pw_narrowplay_k05_whole_strings_that_are_re.main.body.getD i (.Pass ⟨0, 0, 0, 0⟩)
def d_is_integer : He.DefD := ⟨("is_integer", none), "is_integer", "is_integer", defArgs (topS 6), defBody (topS 6), defScope (topS 6), [], []⟩
def d_is_from : He.DefD := ⟨("is_from", none), "is_from", "is_from", defArgs (topS 7), defBody (topS 7), defScope (topS 7), [], []⟩
def d_is_tuple : He.DefD := ⟨("is_tuple", none), "is_tuple", "is_tuple", defArgs (topS 8), defBody (topS 8), defScope (topS 8), [], []⟩
def d_is_word_of : He.DefD := ⟨("is_word_of", none), "is_word_of", "is_word_of", defArgs (topS 9), defBody (topS 9), defScope (topS 9), [], []⟩
def d_is_letters : He.DefD := ⟨("is_letters", none), "is_letters", "is_letters", defArgs (topS 10), defBody (topS 10), defScope (topS 10), [], []⟩
def d_is_letter : He.DefD := ⟨("is_letter", none), "is_letter", "is_letter", defArgs (topS 11), defBody (topS 11), defScope (topS 11), [], []⟩
def d_is_ascending_letters : He.DefD := ⟨("is_ascending_letters", none), "is_ascending_letters", "is_ascending_letters", defArgs (topS 12), defBody (topS 12), defScope (topS 12), [], []⟩
def d_is_player : He.DefD := ⟨("is_player", none), "is_player", "is_player", defArgs (topS 13), defBody (topS 13), defScope (topS 13), [], []⟩
def d_is_poly_value : He.DefD := ⟨("is_poly_value", none), "is_poly_value", "is_poly_value", defArgs (topS 16), defBody (topS 16), defScope (topS 16), [], []⟩
def d_text_of_pair : He.DefD := ⟨("text_of_pair", none), "text_of_pair", "text_of_pair", defArgs (topS 17), defBody (topS 17), defScope (topS 17), [], []⟩
def d_text_of_poly : He.DefD := ⟨("text_of_poly", none), "text_of_poly", "text_of_poly", defArgs (topS 18), defBody (topS 18), defScope (topS 18), [], []⟩
def d_number_from : He.DefD := ⟨("number_from", none), "number_from", "number_from", defArgs (topS 19), defBody (topS 19), defScope (topS 19), [], []⟩
def d_pair_from : He.DefD := ⟨("pair_from", none), "pair_from", "pair_from", defArgs (topS 20), defBody (topS 20), defScope (topS 20), [], []⟩
def d_poly_with_text : He.DefD := ⟨("poly_with_text", none), "poly_with_text", "poly_with_text", defArgs (topS 21), defBody (topS 21), defScope (topS 21), [], []⟩
def d_is_name_value : He.DefD := ⟨("is_name_value", none), "is_name_value", "is_name_value", defArgs (topS 28), defBody (topS 28), defScope (topS 28), [], []⟩
def d_has_word : He.DefD := ⟨("has_word", none), "has_word", "has_word", defArgs (topS 29), defBody (topS 29), defScope (topS 29), [], []⟩
def d_is_part : He.DefD := ⟨("is_part", none), "is_part", "is_part", defArgs (topS 30), defBody (topS 30), defScope (topS 30), [], []⟩
def d_has_parts : He.DefD := ⟨("has_parts", none), "has_parts", "has_parts", defArgs (topS 31), defBody (topS 31), defScope (topS 31), [], []⟩
def d_is_test_value : He.DefD := ⟨("is_test_value", none), "is_test_value", "is_test_value", defArgs (topS 32), defBody (topS 32), defScope (topS 32), [], []⟩
def d_inner_commands : He.DefD := ⟨("inner_commands", none), "inner_commands", "inner_commands", defArgs (topS 33), defBody (topS 33), defScope (topS 33), [], []⟩
def d_are_commands : He.DefD := ⟨("are_commands", none), "are_commands", "are_commands", defArgs (topS 34), defBody (topS 34), defScope (topS 34), [], []⟩
def d_is_command_value : He.DefD := ⟨("is_command_value", none), "is_command_value", "is_command_value", defArgs (topS 35), defBody (topS 35), defScope (topS 35), [], []⟩
def d_is_size : He.DefD := ⟨("is_size", none), "is_size", "is_size", defArgs (topS 36), defBody (topS 36), defScope (topS 36), [], []⟩
def d_is_procedure : He.DefD := ⟨("is_procedure", none), "is_procedure", "is_procedure", defArgs (topS 37), defBody (topS 37), defScope (topS 37), [], []⟩
def d_is_script_value : He.DefD := ⟨("is_script_value", none), "is_script_value", "is_script_value", defArgs (topS 38), defBody (topS 38), defScope (topS 38), [], []⟩
def d_need_script : He.DefD := ⟨("need_script", none), "need_script", "need_script", defArgs (topS 39), defBody (topS 39), defScope (topS 39), [], []⟩
def d_cell_of : He.DefD := ⟨("cell_of", none), "cell_of", "cell_of", defArgs (topS 42), defBody (topS 42), defScope (topS 42), [], []⟩
def d_plain_test_of : He.DefD := ⟨("plain_test_of", none), "plain_test_of", "plain_test_of", defArgs (topS 43), defBody (topS 43), defScope (topS 43), [], []⟩
def d_read_test : He.DefD := ⟨("read_test", none), "read_test", "read_test", defArgs (topS 44), defBody (topS 44), defScope (topS 44), [], []⟩
def d_assignment_of : He.DefD := ⟨("assignment_of", none), "assignment_of", "assignment_of", defArgs (topS 45), defBody (topS 45), defScope (topS 45), [], []⟩
def d_simple_of : He.DefD := ⟨("simple_of", none), "simple_of", "simple_of", defArgs (topS 46), defBody (topS 46), defScope (topS 46), [], []⟩
def d_read_simple : He.DefD := ⟨("read_simple", none), "read_simple", "read_simple", defArgs (topS 47), defBody (topS 47), defScope (topS 47), [], []⟩
def d_read_size : He.DefD := ⟨("read_size", none), "read_size", "read_size", defArgs (topS 48), defBody (topS 48), defScope (topS 48), [], []⟩
def d_OpenPart__init : He.DefD := ⟨("OpenPart", some "__init__"), "__init__", "OpenPart.__init__", defArgs (inClass (topS 49) 0), defBody (inClass (topS 49) 0), defScope (inClass (topS 49) 0), [], []⟩
def d_OpenPart_take_inner : He.DefD := ⟨("OpenPart", some "take_inner"), "take_inner", "OpenPart.take_inner", defArgs (inClass (topS 49) 1), defBody (inClass (topS 49) 1), defScope (inClass (topS 49) 1), [], []⟩
def d_OpenPart_take_else : He.DefD := ⟨("OpenPart", some "take_else"), "take_else", "OpenPart.take_else", defArgs (inClass (topS 49) 2), defBody (inClass (topS 49) 2), defScope (inClass (topS 49) 2), [], []⟩
def d_OpenPart_ended : He.DefD := ⟨("OpenPart", some "ended"), "ended", "OpenPart.ended", defArgs (inClass (topS 49) 3), defBody (inClass (topS 49) 3), defScope (inClass (topS 49) 3), [], []⟩
def d_ScriptReader__init : He.DefD := ⟨("ScriptReader", some "__init__"), "__init__", "ScriptReader.__init__", defArgs (inClass (topS 50) 0), defBody (inClass (topS 50) 0), defScope (inClass (topS 50) 0), [], []⟩
def d_ScriptReader_take_line : He.DefD := ⟨("ScriptReader", some "take_line"), "take_line", "ScriptReader.take_line", defArgs (inClass (topS 50) 1), defBody (inClass (topS 50) 1), defScope (inClass (topS 50) 1), [], []⟩
def d_ScriptReader_is_open : He.DefD := ⟨("ScriptReader", some "is_open"), "is_open", "ScriptReader.is_open", defArgs (inClass (topS 50) 2), defBody (inClass (topS 50) 2), defScope (inClass (topS 50) 2), [], []⟩
def d_ScriptReader_script_read : He.DefD := ⟨("ScriptReader", some "script_read"), "script_read", "ScriptReader.script_read", defArgs (inClass (topS 50) 3), defBody (inClass (topS 50) 3), defScope (inClass (topS 50) 3), [], []⟩
def d_ScriptReader_take_head : He.DefD := ⟨("ScriptReader", some "take_head"), "take_head", "ScriptReader.take_head", defArgs (inClass (topS 50) 4), defBody (inClass (topS 50) 4), defScope (inClass (topS 50) 4), [], []⟩
def d_ScriptReader_take_end : He.DefD := ⟨("ScriptReader", some "take_end"), "take_end", "ScriptReader.take_end", defArgs (inClass (topS 50) 5), defBody (inClass (topS 50) 5), defScope (inClass (topS 50) 5), [], []⟩
def d_ScriptReader_take_command : He.DefD := ⟨("ScriptReader", some "take_command"), "take_command", "ScriptReader.take_command", defArgs (inClass (topS 50) 6), defBody (inClass (topS 50) 6), defScope (inClass (topS 50) 6), [], []⟩
def d_text_of_plain_test : He.DefD := ⟨("text_of_plain_test", none), "text_of_plain_test", "text_of_plain_test", defArgs (topS 52), defBody (topS 52), defScope (topS 52), [], []⟩
def d_text_of_test : He.DefD := ⟨("text_of_test", none), "text_of_test", "text_of_test", defArgs (topS 53), defBody (topS 53), defScope (topS 53), [], []⟩
def d_text_of_simple : He.DefD := ⟨("text_of_simple", none), "text_of_simple", "text_of_simple", defArgs (topS 54), defBody (topS 54), defScope (topS 54), [], []⟩
def d_deeper : He.DefD := ⟨("deeper", none), "deeper", "deeper", defArgs (topS 55), defBody (topS 55), defScope (topS 55), [], []⟩
def d_unfolded : He.DefD := ⟨("unfolded", none), "unfolded", "unfolded", defArgs (topS 56), defBody (topS 56), defScope (topS 56), [], []⟩
def d_command_lines : He.DefD := ⟨("command_lines", none), "command_lines", "command_lines", defArgs (topS 57), defBody (topS 57), defScope (topS 57), [], []⟩
def d_script_lines : He.DefD := ⟨("script_lines", none), "script_lines", "script_lines", defArgs (topS 58), defBody (topS 58), defScope (topS 58), [], []⟩
def d_written : He.DefD := ⟨("written", none), "written", "written", defArgs (topS 60), defBody (topS 60), defScope (topS 60), [], []⟩
def d_read : He.DefD := ⟨("read", none), "read", "read", defArgs (topS 61), defBody (topS 61), defScope (topS 61), [], []⟩
def d_numbered : He.DefD := ⟨("numbered", none), "numbered", "numbered", defArgs (topS 64), defBody (topS 64), defScope (topS 64), [], []⟩
def d_commands_in : He.DefD := ⟨("commands_in", none), "commands_in", "commands_in", defArgs (topS 65), defBody (topS 65), defScope (topS 65), [], []⟩
def d_tests_in : He.DefD := ⟨("tests_in", none), "tests_in", "tests_in", defArgs (topS 66), defBody (topS 66), defScope (topS 66), [], []⟩
def d_twice_faults : He.DefD := ⟨("twice_faults", none), "twice_faults", "twice_faults", defArgs (topS 74), defBody (topS 74), defScope (topS 74), [], []⟩
def d_named_parts : He.DefD := ⟨("named_parts", none), "named_parts", "named_parts", defArgs (topS 75), defBody (topS 75), defScope (topS 75), [], []⟩
def d_unknown_faults : He.DefD := ⟨("unknown_faults", none), "unknown_faults", "unknown_faults", defArgs (topS 76), defBody (topS 76), defScope (topS 76), [], []⟩
def d_input_faults : He.DefD := ⟨("input_faults", none), "input_faults", "input_faults", defArgs (topS 77), defBody (topS 77), defScope (topS 77), [], []⟩
def d_all_faults : He.DefD := ⟨("all_faults", none), "all_faults", "all_faults", defArgs (topS 78), defBody (topS 78), defScope (topS 78), [], []⟩
def d_is_program_value : He.DefD := ⟨("is_program_value", none), "is_program_value", "is_program_value", defArgs (topS 79), defBody (topS 79), defScope (topS 79), [], []⟩
def d_is_program : He.DefD := ⟨("is_program", none), "is_program", "is_program", defArgs (topS 81), defBody (topS 81), defScope (topS 81), [], []⟩
def d_law_deck : He.DefD := ⟨("_law_deck", none), "_law_deck", "_law_deck", defArgs (topS 83), defBody (topS 83), defScope (topS 83), [], []⟩
def d_law_draw : He.DefD := ⟨("_law_draw", none), "_law_draw", "_law_draw", defArgs (topS 84), defBody (topS 84), defScope (topS 84), [], []⟩
def d_law_pick : He.DefD := ⟨("_law_pick", none), "_law_pick", "_law_pick", defArgs (topS 85), defBody (topS 85), defScope (topS 85), [], []⟩
def d_law_drawn_poly : He.DefD := ⟨("_law_drawn_poly", none), "_law_drawn_poly", "_law_drawn_poly", defArgs (topS 86), defBody (topS 86), defScope (topS 86), [], []⟩
def d_law_poly_text : He.DefD := ⟨("_law_poly_text", none), "_law_poly_text", "_law_poly_text", defArgs (topS 87), defBody (topS 87), defScope (topS 87), [], []⟩
def d_law_test_text : He.DefD := ⟨("_law_test_text", none), "_law_test_text", "_law_test_text", defArgs (topS 88), defBody (topS 88), defScope (topS 88), [], []⟩
def d_law_command_text : He.DefD := ⟨("_law_command_text", none), "_law_command_text", "_law_command_text", defArgs (topS 89), defBody (topS 89), defScope (topS 89), [], []⟩
def d_law_command_lines : He.DefD := ⟨("_law_command_lines", none), "_law_command_lines", "_law_command_lines", defArgs (topS 90), defBody (topS 90), defScope (topS 90), [], []⟩
def d_law_text : He.DefD := ⟨("_law_text", none), "_law_text", "_law_text", defArgs (topS 91), defBody (topS 91), defScope (topS 91), [], []⟩
def d_law_pool : He.DefD := ⟨("_law_pool", none), "_law_pool", "_law_pool", defArgs (topS 92), defBody (topS 92), defScope (topS 92), [], []⟩
def d_law_drawn_letters : He.DefD := ⟨("_law_drawn_letters", none), "_law_drawn_letters", "_law_drawn_letters", defArgs (topS 93), defBody (topS 93), defScope (topS 93), [], []⟩
def d_law_drawn_test : He.DefD := ⟨("_law_drawn_test", none), "_law_drawn_test", "_law_drawn_test", defArgs (topS 94), defBody (topS 94), defScope (topS 94), [], []⟩
def d_law_drawn_command : He.DefD := ⟨("_law_drawn_command", none), "_law_drawn_command", "_law_drawn_command", defArgs (topS 95), defBody (topS 95), defScope (topS 95), [], []⟩
def d_law_drawn_commands : He.DefD := ⟨("_law_drawn_commands", none), "_law_drawn_commands", "_law_drawn_commands", defArgs (topS 96), defBody (topS 96), defScope (topS 96), [], []⟩
def d_law_drawn_heads : He.DefD := ⟨("_law_drawn_heads", none), "_law_drawn_heads", "_law_drawn_heads", defArgs (topS 97), defBody (topS 97), defScope (topS 97), [], []⟩
def d_law_drawn_program : He.DefD := ⟨("_law_drawn_program", none), "_law_drawn_program", "_law_drawn_program", defArgs (topS 98), defBody (topS 98), defScope (topS 98), [], []⟩
def d_law_loose_lines : He.DefD := ⟨("_law_loose_lines", none), "_law_loose_lines", "_law_loose_lines", defArgs (topS 99), defBody (topS 99), defScope (topS 99), [], []⟩
def d_law_loose_text : He.DefD := ⟨("_law_loose_text", none), "_law_loose_text", "_law_loose_text", defArgs (topS 100), defBody (topS 100), defScope (topS 100), [], []⟩
def d_law : He.DefD := ⟨("law", none), "law", "law", defArgs (topS 101), defBody (topS 101), defScope (topS 101), [], []⟩
def tbs : List He.Tab := [(fun K => He.ga K "TEST_PARTS", ["is", "equal", "empty", "inside", "at"]),
  (fun K => He.ga K "COMMAND_PARTS", ["set", "copy", "clear", "zero", "up", "down", "same", "do", "choose", "wins"]),
  (fun K => He.ga K "SIZE_WORDS", ["tape", "index"]),
  (fun K => He.ga K "LIST_PLACES", ["if", "repeat"]),
  (fun K => He.ga K "TAPES_AT", ["set", "copy", "clear", "choose", "is", "equal", "empty", "inside"]),
  (fun K => He.ga K "INDEXES_AT", ["set", "copy", "clear", "choose", "zero", "up", "down", "same", "is", "equal", "empty", "inside", "at"]),
  (fun K => He.ga K "WRITTEN_AT", ["set", "copy", "clear", "choose"])]
/-- the tuple that the table x has at the key k -/
def entA (K : PySem.W.Frag) (x k : Str) : Addr := match PySem.W.nsIn K (He.ga K x) k with
  | some (some (.ref a)) => a
  | _ => 0
/-- the table x has at the key k a tuple of these -/
def entB (K : PySem.W.Frag) (x k : Str) (vs : List He.Dv) : Bool := He.eqO (PySem.W.nsIn K (He.ga K x) k) (some (some (.ref (entA K x k)))) && (match K.lookup (entA K x k) with
  | some ⟨.type c, _, .seq its _, _⟩ => decide (c = "tuple") && (decide (its.size ≤ sizeLine) && He.relAll (vs.map (He.Dv.v K)) its.toList)
  | _ => false)
/-- the table x has the text z at the key k -/
def entS (K : PySem.W.Frag) (x k z : Str) : Bool := match PySem.W.nsIn K (He.ga K x) k with
  | some (some (.str y _)) => decide (y = z)
  | _ => false
/-- the table x has no key k -/
def entN (K : PySem.W.Frag) (x k : Str) : Bool := He.eqO (PySem.W.nsIn K (He.ga K x) k) (some none)
def fns0 : List He.DefD := [d_is_integer,
  d_is_from,
  d_is_tuple,
  d_is_word_of,
  d_is_letters,
  d_is_letter,
  d_is_ascending_letters,
  d_is_player,
  d_is_poly_value,
  d_text_of_pair,
  d_text_of_poly,
  d_number_from,
  d_pair_from,
  d_poly_with_text,
  d_is_name_value,
  d_has_word,
  d_is_part,
  d_has_parts,
  d_is_test_value,
  d_inner_commands,
  d_are_commands,
  d_is_command_value,
  d_is_size,
  d_is_procedure]
def fns1 : List He.DefD := [d_is_script_value,
  d_need_script,
  d_cell_of,
  d_plain_test_of,
  d_read_test,
  d_assignment_of,
  d_simple_of,
  d_read_simple,
  d_read_size,
  d_OpenPart__init,
  d_OpenPart_take_inner,
  d_OpenPart_take_else,
  d_OpenPart_ended,
  d_ScriptReader__init,
  d_ScriptReader_take_line,
  d_ScriptReader_is_open,
  d_ScriptReader_script_read,
  d_ScriptReader_take_head,
  d_ScriptReader_take_end,
  d_ScriptReader_take_command,
  d_text_of_plain_test,
  d_text_of_test,
  d_text_of_simple,
  d_deeper]
def fns2 : List He.DefD := [d_unfolded,
  d_command_lines,
  d_script_lines,
  d_written,
  d_read,
  d_numbered,
  d_commands_in,
  d_tests_in,
  d_twice_faults,
  d_named_parts,
  d_unknown_faults,
  d_input_faults,
  d_all_faults,
  d_is_program_value,
  d_is_program,
  d_law_deck,
  d_law_draw,
  d_law_pick,
  d_law_drawn_poly,
  d_law_poly_text,
  d_law_test_text,
  d_law_command_text,
  d_law_command_lines,
  d_law_text]
def fns3 : List He.DefD := [d_law_pool,
  d_law_drawn_letters,
  d_law_drawn_test,
  d_law_drawn_command,
  d_law_drawn_commands,
  d_law_drawn_heads,
  d_law_drawn_program,
  d_law_loose_lines,
  d_law_loose_text,
  d_law]
def fns : List He.DefD := fns0 ++ fns1 ++ fns2 ++ fns3
def fas0 : List He.Fa := [.glo "PlayError",
  .glo "BadScript",
  .glo "BadText",
  .glo "is_integer",
  .glo "is_from",
  .glo "is_tuple",
  .glo "is_word_of",
  .glo "is_letters",
  .glo "is_letter",
  .glo "is_ascending_letters",
  .glo "is_player",
  .glo "is_poly_value",
  .glo "text_of_pair",
  .glo "text_of_poly",
  .glo "number_from",
  .glo "pair_from",
  .glo "poly_with_text",
  .glo "KEYWORDS",
  .glo "TEST_PARTS",
  .glo "COMMAND_PARTS",
  .glo "is_name_value",
  .glo "has_word",
  .glo "is_part",
  .glo "has_parts"]
def fas1 : List He.Fa := [.glo "is_test_value",
  .glo "inner_commands",
  .glo "are_commands",
  .glo "is_command_value",
  .glo "is_size",
  .glo "is_procedure",
  .glo "is_script_value",
  .glo "need_script",
  .glo "SIZE_WORDS",
  .glo "cell_of",
  .glo "plain_test_of",
  .glo "read_test",
  .glo "assignment_of",
  .glo "simple_of",
  .glo "read_simple",
  .glo "read_size",
  .glo "OpenPart",
  .glo "ScriptReader",
  .glo "text_of_plain_test",
  .glo "text_of_test",
  .glo "text_of_simple",
  .glo "deeper",
  .glo "unfolded",
  .glo "command_lines"]
def fas2 : List He.Fa := [.glo "script_lines",
  .glo "written",
  .glo "read",
  .glo "LIST_PLACES",
  .glo "numbered",
  .glo "commands_in",
  .glo "tests_in",
  .glo "TAPES_AT",
  .glo "INDEXES_AT",
  .glo "WRITTEN_AT",
  .glo "twice_faults",
  .glo "named_parts",
  .glo "unknown_faults",
  .glo "input_faults",
  .glo "all_faults",
  .glo "is_program_value",
  .glo "is_program",
  .glo "_law_deck",
  .glo "_law_draw",
  .glo "_law_pick",
  .glo "_law_drawn_poly",
  .glo "_law_poly_text",
  .glo "_law_test_text",
  .glo "_law_command_text"]
def fas3 : List He.Fa := [.glo "_law_command_lines",
  .glo "_law_text",
  .glo "_law_pool",
  .glo "_law_drawn_letters",
  .glo "_law_drawn_test",
  .glo "_law_drawn_command",
  .glo "_law_drawn_commands",
  .glo "_law_drawn_heads",
  .glo "_law_drawn_program",
  .glo "_law_loose_lines",
  .glo "_law_loose_text",
  .glo "law",
  .str "LETTERS" "abcdefghijklmnopqrstuvwxyz",
  .str "DIGITS" "0123456789",
  .int "LONGEST_NAME" 12,
  .str "NAME_SIGNS" "abcdefghijklmnopqrstuvwxyz0123456789_",
  .str "INPUT" "input",
  .int "SORTS" 3,
  .int "PROCEDURES" 2,
  .free "isinstance",
  .free "len",
  .free "all",
  .free "zip",
  .free "reversed"]
def fas4 : List He.Fa := [.free "enumerate",
  .free "tuple",
  .free "list",
  .free "range",
  .free "sorted",
  .free "str",
  .free "int",
  .free "bool",
  .free "repr",
  .free "max",
  .cls "OpenPart",
  .mkr "OpenPart",
  .noat "OpenPart" "kind",
  .noat "OpenPart" "head",
  .noat "OpenPart" "first",
  .noat "OpenPart" "others",
  .noat "OpenPart" "has_else",
  .meth "OpenPart" "take_inner",
  .meth "OpenPart" "take_else",
  .meth "OpenPart" "ended",
  .cls "ScriptReader",
  .mkr "ScriptReader",
  .noat "ScriptReader" "tapes",
  .noat "ScriptReader" "indexes"]
def fas5 : List He.Fa := [.noat "ScriptReader" "procedures",
  .noat "ScriptReader" "open_parts",
  .meth "ScriptReader" "take_line",
  .meth "ScriptReader" "is_open",
  .meth "ScriptReader" "script_read",
  .meth "ScriptReader" "take_head",
  .meth "ScriptReader" "take_end",
  .meth "ScriptReader" "take_command"]
def fas : List He.Fa := fas0 ++ fas1 ++ fas2 ++ fas3 ++ fas4 ++ fas5
def tE (x k : Str) (l : List He.Dv) : Str × Str × List He.Dv := (x, k, l)
def sE (x k z : Str) : Str × Str × Str := (x, k, z)
def nE (x k : Str) : Str × Str := (x, k)
def tupEnts0 : List (Str × Str × List He.Dv) := [tE "TEST_PARTS" "is" [He.Dv.str "tape", He.Dv.str "index", He.Dv.str "letter"],
  tE "TEST_PARTS" "equal" [He.Dv.str "tape", He.Dv.str "index", He.Dv.str "tape", He.Dv.str "index"],
  tE "TEST_PARTS" "empty" [He.Dv.str "tape", He.Dv.str "index"],
  tE "TEST_PARTS" "inside" [He.Dv.str "tape", He.Dv.str "index"],
  tE "TEST_PARTS" "at" [He.Dv.str "index", He.Dv.str "index"],
  tE "COMMAND_PARTS" "set" [He.Dv.str "tape", He.Dv.str "index", He.Dv.str "letter"],
  tE "COMMAND_PARTS" "copy" [He.Dv.str "tape", He.Dv.str "index", He.Dv.str "tape", He.Dv.str "index"],
  tE "COMMAND_PARTS" "clear" [He.Dv.str "tape", He.Dv.str "index"],
  tE "COMMAND_PARTS" "zero" [He.Dv.str "index"],
  tE "COMMAND_PARTS" "up" [He.Dv.str "index"],
  tE "COMMAND_PARTS" "down" [He.Dv.str "index"],
  tE "COMMAND_PARTS" "same" [He.Dv.str "index", He.Dv.str "index"],
  tE "COMMAND_PARTS" "do" [He.Dv.str "procedure"],
  tE "COMMAND_PARTS" "choose" [He.Dv.str "player", He.Dv.str "tape", He.Dv.str "index", He.Dv.str "letters"],
  tE "COMMAND_PARTS" "wins" [He.Dv.str "player"],
  tE "LIST_PLACES" "if" [He.Dv.int 2, He.Dv.int 3],
  tE "LIST_PLACES" "repeat" [He.Dv.int 2],
  tE "TAPES_AT" "set" [He.Dv.int 1],
  tE "TAPES_AT" "copy" [He.Dv.int 1, He.Dv.int 3],
  tE "TAPES_AT" "clear" [He.Dv.int 1],
  tE "TAPES_AT" "choose" [He.Dv.int 2],
  tE "TAPES_AT" "is" [He.Dv.int 1],
  tE "TAPES_AT" "equal" [He.Dv.int 1, He.Dv.int 3],
  tE "TAPES_AT" "empty" [He.Dv.int 1]]
def tupEnts1 : List (Str × Str × List He.Dv) := [tE "TAPES_AT" "inside" [He.Dv.int 1],
  tE "INDEXES_AT" "set" [He.Dv.int 2],
  tE "INDEXES_AT" "copy" [He.Dv.int 2, He.Dv.int 4],
  tE "INDEXES_AT" "clear" [He.Dv.int 2],
  tE "INDEXES_AT" "choose" [He.Dv.int 3],
  tE "INDEXES_AT" "zero" [He.Dv.int 1],
  tE "INDEXES_AT" "up" [He.Dv.int 1],
  tE "INDEXES_AT" "down" [He.Dv.int 1],
  tE "INDEXES_AT" "same" [He.Dv.int 1, He.Dv.int 2],
  tE "INDEXES_AT" "is" [He.Dv.int 2],
  tE "INDEXES_AT" "equal" [He.Dv.int 2, He.Dv.int 4],
  tE "INDEXES_AT" "empty" [He.Dv.int 2],
  tE "INDEXES_AT" "inside" [He.Dv.int 2],
  tE "INDEXES_AT" "at" [He.Dv.int 1, He.Dv.int 2],
  tE "WRITTEN_AT" "set" [He.Dv.int 1],
  tE "WRITTEN_AT" "copy" [He.Dv.int 1],
  tE "WRITTEN_AT" "clear" [He.Dv.int 1],
  tE "WRITTEN_AT" "choose" [He.Dv.int 2]]
def tupEnts : List (Str × Str × List He.Dv) := tupEnts0 ++ tupEnts1
def strEnts : List (Str × Str × Str) := [sE "SIZE_WORDS" "tape" "size", sE "SIZE_WORDS" "index" "to"]
def noEnts0 : List (Str × Str) := [nE "TEST_PARTS" "set",
  nE "TEST_PARTS" "copy",
  nE "TEST_PARTS" "clear",
  nE "TEST_PARTS" "zero",
  nE "TEST_PARTS" "up",
  nE "TEST_PARTS" "down",
  nE "TEST_PARTS" "same",
  nE "TEST_PARTS" "do",
  nE "TEST_PARTS" "choose",
  nE "TEST_PARTS" "wins",
  nE "TEST_PARTS" "if",
  nE "TEST_PARTS" "repeat",
  nE "TEST_PARTS" "not",
  nE "LIST_PLACES" "set",
  nE "LIST_PLACES" "copy",
  nE "LIST_PLACES" "clear",
  nE "LIST_PLACES" "zero",
  nE "LIST_PLACES" "up",
  nE "LIST_PLACES" "down",
  nE "LIST_PLACES" "same",
  nE "LIST_PLACES" "do",
  nE "LIST_PLACES" "choose",
  nE "LIST_PLACES" "wins",
  nE "LIST_PLACES" "is"]
def noEnts1 : List (Str × Str) := [nE "LIST_PLACES" "equal",
  nE "LIST_PLACES" "empty",
  nE "LIST_PLACES" "inside",
  nE "LIST_PLACES" "at",
  nE "LIST_PLACES" "not",
  nE "TAPES_AT" "zero",
  nE "TAPES_AT" "up",
  nE "TAPES_AT" "down",
  nE "TAPES_AT" "same",
  nE "TAPES_AT" "do",
  nE "TAPES_AT" "wins",
  nE "TAPES_AT" "if",
  nE "TAPES_AT" "repeat",
  nE "TAPES_AT" "at",
  nE "TAPES_AT" "not",
  nE "INDEXES_AT" "do",
  nE "INDEXES_AT" "wins",
  nE "INDEXES_AT" "if",
  nE "INDEXES_AT" "repeat",
  nE "INDEXES_AT" "not",
  nE "WRITTEN_AT" "zero",
  nE "WRITTEN_AT" "up",
  nE "WRITTEN_AT" "down",
  nE "WRITTEN_AT" "same"]
def noEnts2 : List (Str × Str) := [nE "WRITTEN_AT" "do",
  nE "WRITTEN_AT" "wins",
  nE "WRITTEN_AT" "if",
  nE "WRITTEN_AT" "repeat",
  nE "WRITTEN_AT" "is",
  nE "WRITTEN_AT" "equal",
  nE "WRITTEN_AT" "empty",
  nE "WRITTEN_AT" "inside",
  nE "WRITTEN_AT" "at",
  nE "WRITTEN_AT" "not"]
def noEnts : List (Str × Str) := noEnts0 ++ noEnts1 ++ noEnts2
def kwds : List He.Dv := [He.Dv.str "tape", He.Dv.str "size", He.Dv.str "index", He.Dv.str "to", He.Dv.str "procedure", He.Dv.str "end", He.Dv.str "if", He.Dv.str "else", He.Dv.str "repeat", He.Dv.str "do", He.Dv.str "one", He.Dv.str "two", He.Dv.str "chooses", He.Dv.str "from", He.Dv.str "wins", He.Dv.str "is", He.Dv.str "equals", He.Dv.str "empty", He.Dv.str "has", He.Dv.str "not", He.Dv.str "up", He.Dv.str "down", He.Dv.str "n"]
def exs (K : PySem.W.Frag) : Bool := (tupEnts.all fun e => entB K e.1 e.2.1 e.2.2) && ((strEnts.all fun e => entS K e.1 e.2.1 e.2.2) && ((noEnts.all fun e => entN K e.1 e.2) && He.tupB K "KEYWORDS" kwds))
end NP
/-! NPBase -/
namespace NP
open PySem PySem.Spec PyProof.Rows L2
/-! ### what stands behind the top -/
def SaysR (w : World) (K : PySem.W.Frag) : Prop := He.SaysT fas fns tbs w K ∧ exs K = true
structure Top (w : World) (K : PySem.W.Frag) (mg : Str → Option Value) : Prop where
  ex : ∃ h : Heap, K.In h ∧ h.Ns mainGlobals mg
  says : SaysR w K
/-- a def of the top -/
structure Has (K : PySem.W.Frag) (mg : Str → Option Value) (d : He.DefD) : Prop where
  fn : ∃ fd, FunD K d.name d.qual d.params d.body d.scope [] [] (He.ga K d.name) fd
  at_ : mg d.name = some (.ref (He.ga K d.name))
section
variable {w : World} {K : PySem.W.Frag} {mg : Str → Option Value}
theorem Top.fact (T : Top w K mg) (i : Nat) {f : He.Fa} (h : fas[i]? = some f := by rfl) : f.ok K = true := T.says.1.d.fact i h
theorem Top.glo (T : Top w K mg) (i : Nat) {x : Str} (h : fas[i]? = some (.glo x) := by rfl) : mg x = some (.ref (He.ga K x)) :=
  let ⟨_, X, G⟩ := T.ex
  He.glo_ok X G (T.fact i h)
theorem Top.free (T : Top w K mg) (i : Nat) {x : Str} (h : fas[i]? = some (.free x) := by rfl) : mg x = none :=
  let ⟨_, X, G⟩ := T.ex
  He.free_ok X G (T.fact i h)
theorem Top.int (T : Top w K mg) (i : Nat) {x : Str} {n : Int} (h : fas[i]? = some (.int x n) := by rfl) : ∃ t, mg x = some (.int n t) :=
  let ⟨_, X, G⟩ := T.ex
  He.int_ok X G (T.fact i h)
theorem Top.str (T : Top w K mg) (i : Nat) {x z : Str} (h : fas[i]? = some (.str x z) := by rfl) : ∃ t, mg x = some (.str z t) :=
  let ⟨_, X, G⟩ := T.ex
  He.str_ok X G (T.fact i h)
theorem Top.has (T : Top w K mg) (i j : Nat) {d : He.DefD} (hd : fns[i]? = some d) (hg : fas[j]? = some (.glo d.name)) (e : d.at_ = (d.name, none)) (e0 : d.dfl = []) (e1 : d.kwd = []) : Has K mg d := by
  obtain ⟨fd, F⟩ := T.says.1.d.def_ i hd
  refine ⟨⟨fd, ?_⟩, T.glo j hg⟩
  have a : He.fAd K d.at_ = He.ga K d.name := by rw [e]; rfl
  have b : d.dvs K = [] := by unfold He.DefD.dvs; rw [e0]; rfl
  have c : d.kws K = [] := by unfold He.DefD.kws; rw [e1]; rfl
  rw [a, b, c] at F
  exact F
end
/-! ### a def keeps its promise -/
def OK (P : Program) (w : World) (K : PySem.W.Frag) (mg : Str → Option Value) (base : Heap) (k : Nat) (x : Str) (ps : List Str) (sp : Sp) : Prop :=
  ∃ f fd, FnOk P w K mg base CX0 k f fd ps sp ∧ mg x = some (.ref f) ∧ PySem.W.keepIn K (.ref f) = true ∧ Binds K fd ps []
section
variable {P : Program} {w : World} {K : PySem.W.Frag} {mg : Str → Option Value} {base : Heap}
theorem OK.mono {j k : Nat} {x : Str} {ps : List Str} {sp : Sp} (O : OK P w K mg base j x ps sp) (h : j ≤ k) : OK P w K mg base k x ps sp :=
  let ⟨f, fd, F, r⟩ := O
  ⟨f, fd, F.mono h, r⟩
theorem OK.imp {k : Nat} {x : Str} {ps : List Str} {sp sp' : Sp} (O : OK P w K mg base k x ps sp) (h : ∀ vs H Q E, sp' vs H Q E → sp vs H Q E) : OK P w K mg base k x ps sp' :=
  let ⟨f, fd, F, r⟩ := O
  ⟨f, fd, F.imp h, r⟩
theorem Has.ok {d : He.DefD} (D : Has K mg d) {N ps : List Str} {k : Nat} {sp : Sp} (S : FnScope N ps d.scope)
    (b : ∀ (kV doc pm : Value) (an : Option Addr) (cdv ct : Value) (us : List Value), us.length = ps.length → bindArgs (PySem.W.fnOf d.name d.qual d.params d.body d.scope .none kV doc pm an cdv ct) ⟨us, []⟩ = pure (ps.zip us))
    (len : ∀ vs H Q E, sp vs H Q E → vs.length = ps.length)
    (body : ∀ (f : Addr) (cdv : Value) (A : Around) (outer : List Env) (s : Shared) (H : Hp) (vs : List V) (Q : VK) (E : XK), Room k (A.deeper (envOfC d.qual d.scope s.heap.objs.size f cdv)) → sp vs H Q E →
      ∃ t, PSs (cxOf CX0 P w K mg base N d.qual d.scope f cdv A outer s H E).nox d.body t ∧ t { nx := fun _ H' => Q .non H', rt := Q } (start N vs) H) : OK P w K mg base (k + 1) d.name ps sp := by
  obtain ⟨⟨fd, F⟩, hm⟩ := D
  refine ⟨_, fd, F.ok S len (fun cdv A outer s H vs Q E hr h => ?_), hm, F.kp, F.bindsN b⟩
  obtain ⟨t, h1, h2⟩ := body _ cdv A outer s H vs Q E hr h
  exact ⟨t, h1.nox, h2⟩
/-- a call of such a def -/
theorem pe_c {X : Cx} {k : Nat} {x : Str} {ps : List Str} {sp : Sp} {p pos : Pos} {e : Expr} {es : List Expr} {t : TA} (O : OK X.prog X.w X.K X.mg X.base k x ps sp) (hr : Room k X.A) (hg : Gl X x) (ha : PA X (e :: es) t)
    (hdb : (x == ("__debug__" : Str)) = false := by decide) (he : starEach (e :: es) X.env = (false, eval e X.env) :: starEach es X.env := by rfl) (hpl : (backTo pos (starEach es X.env)).any (·.1) = false := by rfl) :
    PE X (.Call (.Name x p) (e :: es) [] pos) (tCall sp [] E0 t) := by
  obtain ⟨f, fd, F, hm, hk, hb⟩ := O
  exact pe_call F hr hg hm hk hb .nil pass0 ha hdb he hpl
theorem pe_c0 {X : Cx} {k : Nat} {x : Str} {ps : List Str} {sp : Sp} {p pos : Pos} (O : OK X.prog X.w X.K X.mg X.base k x ps sp) (hr : Room k X.A) (hg : Gl X x)
    (hdb : (x == ("__debug__" : Str)) = false := by decide) : PE X (.Call (.Name x p) [] [] pos) (tCall sp [] E0 tNil) := by
  obtain ⟨f, fd, F, hm, hk, hb⟩ := O
  exact pe_call0 F hr hg hm hk hb .nil pass0 hdb
end
/-! ### heaps -/
theorem same_upd {H : Hp} {p : Addr} {o : HO} (h : H p = none) : Same H (upd H p o) := fun b x e => by
  rw [upd_ne (ne_of_none e h)]
  exact e
/-- the tuples are kept -/
def TK (H H' : Hp) : Prop := ∀ b xs, H b = some (.tup xs) → H' b = some (.tup xs)
theorem TK.refl (H : Hp) : TK H H := fun _ _ h => h
theorem TK.trans {H H1 H2 : Hp} (a : TK H H1) (b : TK H1 H2) : TK H H2 := fun c o h => b c o (a c o h)
theorem same_tk {H H' : Hp} (e : Same H H') : TK H H' := fun b xs h => e b _ h
theorem tk_upd {H : Hp} {p : Addr} {o : HO} (h : ∀ xs, H p ≠ some (.tup xs)) : TK H (upd H p o) := fun b xs e => by
  by_cases q : b = p
  · subst q
    exact absurd e (h xs)
  · rw [upd_ne q]
    exact e
/-- all but what stands at these addresses is as it was -/
def SameX (S : List Addr) (H H' : Hp) : Prop := ∀ b o, H b = some o → b ∉ S → H' b = some o
theorem SameX.refl (S : List Addr) (H : Hp) : SameX S H H := fun _ _ h _ => h
theorem SameX.trans {S : List Addr} {H H1 H2 : Hp} (a : SameX S H H1) (b : SameX S H1 H2) : SameX S H H2 := fun c o h n => b c o (a c o h n) n
theorem SameX.mono {S S' : List Addr} {H H' : Hp} (a : SameX S H H') (h : ∀ b ∈ S, b ∈ S') : SameX S' H H' := fun c o e n => a c o e fun z => n (h c z)
theorem same_x {H H' : Hp} (e : Same H H') (S : List Addr) : SameX S H H' := fun b o h _ => e b o h
theorem samex_upd {S : List Addr} {H : Hp} {p : Addr} {o : HO} (h : p ∈ S) : SameX S H (upd H p o) := fun b x e n => by
  rw [upd_ne (fun z => n (by rw [z]; exact h))]
  exact e
theorem samex_new {S : List Addr} {H : Hp} {p : Addr} {o : HO} (h : H p = none) : SameX S H (upd H p o) := same_x (same_upd h) S
theorem SameX.same {H H' : Hp} (a : SameX [] H H') : Same H H' := fun b o h => a b o h (by simp)
theorem SameX.free {S : List Addr} {H H' : Hp} (e : SameX S H H') {l : Addr} (h : H' l = none) (n : l ∉ S) : H l = none := by
  cases q : H l with
  | none => rfl
  | some o =>
    rw [e l o q n] at h
    cases h
/-! ### data: ints, texts, tuples of such -/
mutual
def Rp (H : Hp) : PyData → V → Prop
  | .int i, v => v = .int i
  | .str x, v => v = .str x
  | .tuple ds, v => ∃ a xs, v = .ref a ∧ H a = some (.tup xs) ∧ RpL H ds xs
  | _, _ => False
def RpL (H : Hp) : List PyData → List V → Prop
  | [], xs => xs = []
  | d :: ds, xs => ∃ v vs, xs = v :: vs ∧ Rp H d v ∧ RpL H ds vs
end
mutual
theorem Rp.tk {H H' : Hp} (k : TK H H') : ∀ {d : PyData} {v : V}, Rp H d v → Rp H' d v
  | .int _, _, h => h
  | .str _, _, h => h
  | .tuple _, _, ⟨a, xs, e, h, r⟩ => ⟨a, xs, e, k a xs h, RpL.tk k r⟩
theorem RpL.tk {H H' : Hp} (k : TK H H') : ∀ {ds : List PyData} {xs : List V}, RpL H ds xs → RpL H' ds xs
  | [], _, h => h
  | _ :: _, _, ⟨v, vs, e, h, r⟩ => ⟨v, vs, e, Rp.tk k h, RpL.tk k r⟩
end
theorem RpL.len {H : Hp} : ∀ {ds : List PyData} {xs : List V}, RpL H ds xs → xs.length = ds.length
  | [], _, h => by cases h; rfl
  | _ :: _, _, ⟨_, _, e, _, r⟩ => by rw [e, List.length_cons, List.length_cons, RpL.len r]
theorem RpL.at_ {H : Hp} : ∀ {ds : List PyData} {xs : List V} {i : Nat} {x : V}, RpL H ds xs → xs[i]? = some x → ∃ d, ds[i]? = some d ∧ Rp H d x
  | [], _, _, _, h, e => by cases h; simp at e
  | d :: _, _, 0, _, ⟨_, _, q, h, _⟩, e => by
    subst q
    cases e
    exact ⟨d, rfl, h⟩
  | _ :: _, _, i + 1, _, ⟨_, _, q, _, r⟩, e => by
    subst q
    exact RpL.at_ (i := i) r e
theorem RpL.of {H : Hp} : ∀ {ds : List PyData} {xs : List V}, xs.length = ds.length → (∀ (i : Nat) (d : PyData) (x : V), ds[i]? = some d → xs[i]? = some x → Rp H d x) → RpL H ds xs
  | [], [], _, _ => rfl
  | _ :: _, x :: xs, l, h => ⟨x, xs, rfl, h 0 _ _ rfl rfl, RpL.of (Nat.succ.inj l) fun i d x e1 e2 => h (i + 1) d x e1 e2⟩
theorem RpL.app {H : Hp} : ∀ {ds es : List PyData} {xs ys : List V}, RpL H ds xs → RpL H es ys → RpL H (ds ++ es) (xs ++ ys)
  | [], _, _, _, h, r => by cases h; exact r
  | _ :: _, _, _, _, ⟨v, vs, e, h, t⟩, r => by subst e; exact ⟨v, vs ++ _, rfl, h, RpL.app t r⟩
theorem RpL.split {H : Hp} : ∀ {ds es : List PyData} {zs : List V}, RpL H (ds ++ es) zs → ∃ xs ys, zs = xs ++ ys ∧ RpL H ds xs ∧ RpL H es ys
  | [], _, zs, h => ⟨[], zs, rfl, rfl, h⟩
  | d :: ds, es, _, ⟨v, vs, e, h, t⟩ => by
    subst e
    obtain ⟨xs, ys, e, h1, h2⟩ := RpL.split (ds := ds) t
    exact ⟨v :: xs, ys, by rw [e]; rfl, ⟨v, xs, rfl, h, h1⟩, h2⟩
theorem RpL.strs {H : Hp} : ∀ {zs : List Str} {xs : List V}, RpL H (zs.map .str) xs → xs = zs.map V.str
  | [], _, h => h
  | z :: zs, _, ⟨_, _, e, h, r⟩ => by
    rw [e, RpL.strs r, show _ = V.str z from h]
    rfl
theorem RpL.ofStrs {H : Hp} : ∀ zs : List Str, RpL H (zs.map .str) (zs.map V.str)
  | [] => rfl
  | z :: zs => ⟨.str z, zs.map V.str, rfl, rfl, RpL.ofStrs zs⟩
/-- a new tuple of data -/
theorem Rp.new {H : Hp} {p : Addr} {ds : List PyData} {xs : List V} (hp : H p = none) (r : RpL H ds xs) : Rp (upd H p (.tup xs)) (.tuple ds) (.ref p) :=
  ⟨p, xs, rfl, upd_same, RpL.tk (same_tk (same_upd hp)) r⟩
theorem Rp.same {H H' : Hp} (k : Same H H') {d : PyData} {v : V} (h : Rp H d v) : Rp H' d v := Rp.tk (same_tk k) h
theorem RpL.same {H H' : Hp} (k : Same H H') {d : List PyData} {v : List V} (h : RpL H d v) : RpL H' d v := RpL.tk (same_tk k) h
/-! ### the module's constants -/
section
variable {X : Cx}
theorem pe_gs {x z : Str} {pos : Pos} (h : ∃ t, X.mg x = some (.str z t)) (hg : Gl X x) (hd : (x == ("__debug__" : Str)) = false := by decide) : PE X (.Name x pos) (tC (.str z)) :=
  let ⟨t, e⟩ := h
  pe_glob hg e ⟨t, rfl⟩ hd
theorem pe_gi {x : Str} {n : Int} {pos : Pos} (h : ∃ t, X.mg x = some (.int n t)) (hg : Gl X x) (hd : (x == ("__debug__" : Str)) = false := by decide) : PE X (.Name x pos) (tC (.int n)) :=
  let ⟨t, e⟩ := h
  pe_glob hg e ⟨t, rfl⟩ hd
theorem pe_gr {x : Str} {a : Addr} {pos : Pos} (h : X.mg x = some (.ref a)) (hg : Gl X x) (hd : (x == ("__debug__" : Str)) = false := by decide) : PE X (.Name x pos) (tC (.ref a)) :=
  pe_glob hg h rfl hd
end
end NP
/-! NPRun -/
namespace NP
open PySem PySem.Spec PyProof.Rows L2
abbrev RW : PySem.W.OpenRow := PySem.W.OpenLaw.row PySem.Challenge.rw_narrowplay_k05_whole_strings_that_are_re
/-- what is looked at behind the top: all that stands there -/
def frR (n : Nat) (g : Addr → Option Obj) : PySem.W.Frag := He.frG g (List.range n)
abbrev AlR : Type := He.AlT × Bool
def obsR (n : Nat) (g : Addr → Option Obj) : AlR := (He.obsT fas fns tbs (frR n g), exs (frR n g))
def valR (w : World) : AlR := (He.valT fns tbs w, true)
def hk : PySem.W.Hook where
  α := AlR
  obs := fun s => obsR s.heap.objs.size s.heap.get?
  val := fun w => valR w
  says := fun w h => ∃ K : PySem.W.Frag, K.In h ∧ SaysR w K
  of := fun _ _ e => ⟨_, He.frG_in, congrArg (fun z : AlR => z.1) e, congrArg (fun z : AlR => z.2) e⟩
  keeps := fun _ _ _ ⟨K, hK, c⟩ k => ⟨K, PySem.W.Frag.In.keeps hK k, c⟩
def ob (s : PySem.W.SharedT) : AlR := obsR s.n (HandSHeadRun.getT s)
theorem ob_eq (s : PySem.W.SharedT) : ob s = hk.obs s.abs := by
  have e : HandSHeadRun.getT s = s.abs.heap.get? := funext (HandSHeadRun.getT_eq s)
  have e2 : s.abs.heap.objs.size = s.n := PySem.W.absHeap_size s.tree s.n s.life
  show obsR s.n (HandSHeadRun.getT s) = obsR s.abs.heap.objs.size s.abs.heap.get?
  rw [e, e2]
def loose0 : List Str := ["PlayError", "BadScript", "BadText", "LETTERS", "is_integer", "is_from", "is_tuple", "is_word_of", "is_letters", "is_letter", "is_ascending_letters", "is_player", "DIGITS", "is_poly_value", "text_of_pair", "text_of_poly", "number_from", "pair_from", "poly_with_text", "LONGEST_NAME", "NAME_SIGNS", "KEYWORDS", "TEST_PARTS", "COMMAND_PARTS", "is_name_value", "has_word", "is_part", "has_parts", "is_test_value", "inner_commands"]
def loose1 : List Str := ["are_commands", "is_command_value", "is_size", "is_procedure", "is_script_value", "need_script", "SIZE_WORDS", "cell_of", "plain_test_of", "read_test", "assignment_of", "simple_of", "read_simple", "read_size", "OpenPart", "ScriptReader", "text_of_plain_test", "text_of_test", "text_of_simple", "deeper", "unfolded", "command_lines", "script_lines", "written", "read", "LIST_PLACES", "numbered", "commands_in", "tests_in", "INPUT"]
def loose2 : List Str := ["SORTS", "PROCEDURES", "TAPES_AT", "INDEXES_AT", "WRITTEN_AT", "twice_faults", "named_parts", "unknown_faults", "input_faults", "all_faults", "is_program_value", "is_program", "_law_deck", "_law_draw", "_law_pick", "_law_drawn_poly", "_law_poly_text", "_law_test_text", "_law_command_text", "_law_command_lines", "_law_text", "_law_pool", "_law_drawn_letters", "_law_drawn_test", "_law_drawn_command", "_law_drawn_commands", "_law_drawn_heads", "_law_drawn_program", "_law_loose_lines", "_law_loose_text"]
def looseAll : List Str := loose0 ++ loose1 ++ loose2
/-! the run in three parts, for each answer of the world's row -/
abbrev qv : Program := PySem.W.view RW.prog [101]
noncomputable abbrev ends (w : World) (os : OsState) : Option PySem.W.SharedT := HandSHeadRun.endF (HandSHeadRun.stepQ (HandSHeadRun.denQ HandSHeadRun.tabQ) RW.prog w) 12000 RW.prog w os
noncomputable def seeA (w : World) (s : PySem.W.SharedT) := (HandSHeadRun.looksF RW.prog (PySem.W.boot_heap w.params) s.abs, HandSHeadRun.seenQ qv looseAll (PySem.importedModules RW.prog.main.body) (fun s => PySem.W.xlAt qv [] s && PySem.W.recOk RW.toRowW.records s) s.abs)
def kOf (s : PySem.W.SharedT) : PySem.W.Frag := frR s.n (HandSHeadRun.getT s)
def runPA (w : World) : Prop := ∀ os : OsState, (ends w os).map (seeA w) = some (true, PySem.W.openGood qv looseAll)
def runPB (w : World) : Prop := ∀ os : OsState, (ends w os).map (fun s => (fas.all fun f => f.ok (kOf s), exs (kOf s), tbs.map fun t => He.dicW (kOf s) (t.1 (kOf s)))) = some (true, true, tbs.map fun t => some (He.keysIn w.params t.2))
def runPC (w : World) : Prop := ∀ os : OsState, (ends w os).map (fun s => (fns.all fun d => d.ok (kOf s), fns.map fun d => He.fnW (kOf s) d.at_)) = some (true, fns.map He.DefD.val)
theorem runAf (w : World) : runPA (w.withFollow "special-get-raises" false) := by intro os; kernel_rfl
theorem runAt (w : World) : runPA (w.withFollow "special-get-raises" true) := by intro os; kernel_rfl
theorem runBf (w : World) : runPB (w.withFollow "special-get-raises" false) := by intro os; kernel_rfl
theorem runBt (w : World) : runPB (w.withFollow "special-get-raises" true) := by intro os; kernel_rfl
theorem runCf (w : World) : runPC (w.withFollow "special-get-raises" false) := by intro os; kernel_rfl
theorem runCt (w : World) : runPC (w.withFollow "special-get-raises" true) := by intro os; kernel_rfl
theorem both {α β γ δ : Type} {o : Option α} {f : α → β} {g : α → γ} {b : β} {c : γ} (h1 : o.map f = some b) (h2 : o.map g = some c) (k : α → δ) (m : β → γ → δ) (e : ∀ s, k s = m (f s) (g s)) : o.map k = some (m b c) := by
  cases o with
  | none => cases h1
  | some s =>
    have e1 : f s = b := Option.some.inj h1
    have e2 : g s = c := Option.some.inj h2
    rw [← e1, ← e2]
    exact congrArg some (e s)
theorem run (w : World) : HandSHeadRun.RunEq RW qv hk ob 12000 looseAll w := fun os => by
  have hA := PySem.W.byRow2 "special-get-raises" (P := runPA) runAf runAt w os
  have hB := PySem.W.byRow2 "special-get-raises" (P := runPB) runBf runBt w os
  have hC := PySem.W.byRow2 "special-get-raises" (P := runPC) runCf runCt w os
  have hBC := both hB hC ob (fun b c => (((b.1 && c.1, c.2), b.2.2), b.2.1)) fun _ => rfl
  exact both hA hBC _ (fun a z => (a.1, a.2, z)) fun _ => rfl
end NP
/-! NPLooks -/
namespace NP
open PySem PySem.Spec PyProof.Rows L2
/-! ### a comprehension whose items are made one by one, nothing else being changed but the new list -/
/-- all but what stands at D is as it was -/
def SameD (D : Addr) (H H' : Hp) : Prop := ∀ b o, b ≠ D → H b = some o → H' b = some o
theorem SameD.refl (D : Addr) (H : Hp) : SameD D H H := fun _ _ _ h => h
theorem SameD.trans {D : Addr} {H H1 H2 : Hp} (a : SameD D H H1) (b : SameD D H1 H2) : SameD D H H2 := fun c o n h => b c o n (a c o n h)
theorem SameD.of {D : Addr} {H H' : Hp} (a : Same H H') : SameD D H H' := fun b o _ h => a b o h
theorem SameD.upd {D : Addr} {H : Hp} {o : HO} : SameD D H (upd H D o) := fun b x n h => by rw [upd_ne n]; exact h
theorem SameD.same {D : Addr} {H H' : Hp} (a : SameD D H H') (n : H D = none) : Same H H' := fun b o h => a b o (ne_of_none h n) h
theorem lc_map {J : It} {n : Nat} {G : Hp → Prop} {Y : Nat → Hp → V → Hp → Prop} (w : Walk J n G Y) {g : TG} {te : TE} {vs : List Nat} {σ : L2.St} {H1 : Hp} {D : Addr} {Qd : Hp → Prop} (hD : H1 D = none) (hn : n ≤ 1000000)
    (hG : ∀ H', Same H1 H' → G H') (R : Nat → V → Hp → Prop) (hR : ∀ i y H H', R i y H → TK H H' → R i y H')
    (step : ∀ i x H H2, i < n → Same H1 H → Y i H x H2 → ∀ (C : V → Hp → Prop), (∀ y H5, Same H H5 → R i y H5 → C y H5) →
      g x (wipe σ vs) H2 fun σ2 H3 => wipe σ2 vs = wipe σ vs ∧ te σ2 H3 C)
    (fin : ∀ ys H', ys.length = n → Same H1 H' → H' D = some (.lst ys) → (∀ (i : Nat) (y : V), ys[i]? = some y → R i y H') → Qd H') :
    ∃ W : Nat → Nat → Hp → Prop, (∃ m, W 0 m (upd H1 D (.lst []))) ∧ ∀ i m H, W i m H →
      (J.stop i H ∧ Qd H) ∨ (J.go i H ∧ ∃ Nx : Hp → Prop, (∀ H', Nx H' → ∃ m', m' < m ∧ W (i + 1) m' H') ∧ ∀ x H', J.yld i H x H' → g x (wipe σ vs) H' fun σ2 H2 => wipe σ2 vs = wipe σ vs ∧ tYes σ2 H2 fun b H3 =>
        if b = true then te σ2 H3 fun y H4 => ∃ acc, H4 D = some (.lst acc) ∧ acc.length < sizeLine ∧ Nx (upd H4 D (.lst (acc ++ [y]))) else Nx H3) := by
  refine lc_it w (fun i H => SameD D H1 H ∧ ∃ ys, ys.length = i ∧ H D = some (.lst ys) ∧ ∀ (j : Nat) (y : V), ys[j]? = some y → R j y H) ⟨.upd, [], rfl, upd_same, fun j y h => by simp at h⟩ (fun i H _ h => hG H (h.1.same hD)) (fun i x H H' hi h hy => ?_) fun H h => ?_
  · obtain ⟨s, ys, l, e, r⟩ := h
    refine step i x H H' hi (s.same hD) hy _ fun y H5 s5 hy5 => ⟨ys, s5 _ _ e, ?_, (s.trans (.of s5)).trans .upd, ys ++ [y], by simp [l], upd_same, fun j z hj => ?_⟩
    · have : (1000000 : Nat) < sizeLine := by decide
      omega
    · have tk : TK H5 (upd H5 D (.lst (ys ++ [y]))) := tk_upd fun xs q => by
        rw [s5 _ _ e] at q
        cases q
      rcases Nat.lt_trichotomy j ys.length with q | q | q
      · rw [List.getElem?_append_left q] at hj
        exact hR _ _ _ _ (r j z hj) ((same_tk s5).trans tk)
      · subst q
        rw [List.getElem?_append_right (Nat.le_refl _), Nat.sub_self] at hj
        have e1 : y = z := Option.some.inj hj
        rw [← e1, l]
        exact hR _ _ _ _ hy5 tk
      · have : (ys ++ [y]).length ≤ j := by simp; omega
        rw [List.getElem?_eq_none this] at hj
        cases hj
  · obtain ⟨s, ys, l, e, r⟩ := h
    exact fin ys H l (s.same hD) e r
/-- all of [f(x) for x in ..], every f(x) being True -/
theorem all_true {bs : List V} (h : ∀ (i : Nat) (y : V), bs[i]? = some y → y = .bl true) : bs = (List.replicate bs.length true).map V.bl := by
  induction bs with
  | nil => rfl
  | cons b r ih =>
    rw [h 0 b rfl, List.length_cons, List.replicate_succ, List.map_cons, ← ih fun i y e => h (i + 1) y e]
theorem all_rep (n : Nat) : (List.replicate n true).all id = true := by
  induction n with
  | zero => rfl
  | succ n ih => rw [List.replicate_succ, List.all_cons, ih]; rfl
/-- the same for all(..) of such a list: the answer is True -/
theorem lc_all {J : It} {n : Nat} {G : Hp → Prop} {Y : Nat → Hp → V → Hp → Prop} (w : Walk J n G Y) {g : TG} {te : TE} {vs : List Nat} {σ : L2.St} {H1 : Hp} {Qd : Addr → Hp → Prop} (hn : n ≤ 1000000)
    (hG : ∀ H', Same H1 H' → G H')
    (step : ∀ i x H H2, i < n → Same H1 H → Y i H x H2 → ∀ (C : V → Hp → Prop), (∀ H5, Same H H5 → C (.bl true) H5) →
      g x (wipe σ vs) H2 fun σ2 H3 => wipe σ2 vs = wipe σ vs ∧ te σ2 H3 C)
    (fin : ∀ D H' (bs : List Bool), Same H1 H' → H' D = some (.lst (bs.map V.bl)) → bs.all id = true → Qd D H') :
    ∀ D, H1 D = none → ∃ W : Nat → Nat → Hp → Prop, (∃ m, W 0 m (upd H1 D (.lst []))) ∧ ∀ i m H, W i m H →
      (J.stop i H ∧ Qd D H) ∨ (J.go i H ∧ ∃ Nx : Hp → Prop, (∀ H', Nx H' → ∃ m', m' < m ∧ W (i + 1) m' H') ∧ ∀ x H', J.yld i H x H' → g x (wipe σ vs) H' fun σ2 H2 => wipe σ2 vs = wipe σ vs ∧ tYes σ2 H2 fun b H3 =>
        if b = true then te σ2 H3 fun y H4 => ∃ acc, H4 D = some (.lst acc) ∧ acc.length < sizeLine ∧ Nx (upd H4 D (.lst (acc ++ [y]))) else Nx H3) := fun D hD =>
  lc_map w hD hn hG (fun _ y _ => y = .bl true) (fun _ _ _ _ h _ => h) (fun i x H H2 hi s hy C k => step i x H H2 hi s hy C fun H5 s5 => k _ H5 s5 rfl) fun ys H' _ s e r =>
    fin D H' (List.replicate ys.length true) s (by rw [e, ← all_true r]) (all_rep _)
section
variable {P : Program} {w : World} {K : PySem.W.Frag} {mg : Str → Option Value} {base : Heap}
def sp_is_integer : Sp := fun vs H Q _ => ∃ i : Int, vs = [.int i] ∧ Q (.bl true) H
abbrev nn_is_integer : List Str := ["thing"]
theorem sc_is_integer : FnScope nn_is_integer ["thing"] d_is_integer.scope := ⟨rfl, rfl, rfl, by decide +kernel, rfl, by decide +kernel, by decide +kernel⟩
theorem ok_is_integer (T : Top w K mg) : OK P w K mg base 1 "is_integer" ["thing"] sp_is_integer := by
  refine Has.ok (d := d_is_integer) (T.has 0 3 rfl rfl rfl rfl rfl) sc_is_integer (fun _ _ _ _ _ _ us hl => match us, hl with | [_], _ => rfl) (by rintro _ _ _ _ ⟨_, rfl, _⟩; rfl) (fun f cdv A outer s H vs Q E hr h => ?_)
  obtain ⟨i, rfl, q⟩ := h
  refine ⟨_, (pss_one (ps_ret (pe_and (pe_callB call_isi (by rfl) (T.free 91) (by decide +kernel) (pa_cons (pv 0) (pa_cons (pe_bltn (v := .ty "int") rfl (T.free 102) (by decide +kernel) rfl) pa_nil))) (pe_one (pe_not (pe_callB call_isi (by rfl) (T.free 91) (by decide +kernel) (pa_cons (pv 0) (pa_cons (pe_bltn (v := .ty "bool") rfl (T.free 103) (by decide +kernel) rfl) pa_nil)))))))), ?_⟩
  refine ⟨_, rfl, _, _, .type "int", .type "int", true, rfl, .ty _, .base (.int i), kit_ty (by decide +kernel), true, rfl, iteT ?_⟩
  exact ⟨_, rfl, _, _, .type "int", .type "bool", false, rfl, .ty _, .base (.int i), kit_ty (by decide +kernel), false, rfl, q⟩
def sp_is_from : Sp := fun vs H Q _ => ∃ i l : Int, vs = [.int i, .int l] ∧ l ≤ i ∧ Q (.bl true) H
abbrev nn_is_from : List Str := ["thing", "least"]
theorem sc_is_from : FnScope nn_is_from ["thing", "least"] d_is_from.scope := ⟨rfl, rfl, rfl, by decide +kernel, rfl, by decide +kernel, by decide +kernel⟩
theorem ok_is_from (T : Top w K mg) : OK P w K mg base 2 "is_from" ["thing", "least"] sp_is_from := by
  refine Has.ok (d := d_is_from) (T.has 1 4 rfl rfl rfl rfl rfl) sc_is_from (fun _ _ _ _ _ _ us hl => match us, hl with | [_, _], _ => rfl) (by rintro _ _ _ _ ⟨_, _, rfl, _⟩; rfl) (fun f cdv A outer s H vs Q E hr h => ?_)
  obtain ⟨i, l, rfl, hl, q⟩ := h
  refine ⟨_, (pss_one (ps_ret (pe_and (pe_c (ok_is_integer T) (hr.mono (by decide)) (by rfl) (pa_cons (pv 0) pa_nil)) (pe_one (pe_cmpR op_ge (pv 0) (pv 1) (nomark _)))))), ?_⟩
  refine ⟨_, rfl, i, rfl, true, rfl, iteT ⟨_, rfl, _, rfl, _, _, rfl, rfl, ?_⟩⟩
  show Q (.bl (decide (l ≤ i))) H
  rw [decide_eq_true hl]
  exact q
def sp_is_tuple : Sp := fun vs H Q _ => ∃ (a : Addr) (n : Int) (xs : List V), vs = [.ref a, .int n] ∧ H a = some (.tup xs) ∧ Q (.bl (decide (V.int xs.length = V.int n))) H
abbrev nn_is_tuple : List Str := ["thing", "many"]
theorem sc_is_tuple : FnScope nn_is_tuple ["thing", "many"] d_is_tuple.scope := ⟨rfl, rfl, rfl, by decide +kernel, rfl, by decide +kernel, by decide +kernel⟩
theorem ok_is_tuple (T : Top w K mg) : OK P w K mg base 1 "is_tuple" ["thing", "many"] sp_is_tuple := by
  refine Has.ok (d := d_is_tuple) (T.has 2 5 rfl rfl rfl rfl rfl) sc_is_tuple (fun _ _ _ _ _ _ us hl => match us, hl with | [_, _], _ => rfl) (by rintro _ _ _ _ ⟨_, _, _, rfl, _⟩; rfl) (fun f cdv A outer s H vs Q E hr h => ?_)
  obtain ⟨a, n, xs, rfl, ha, q⟩ := h
  refine ⟨_, (pss_one (ps_ret (pe_and (pe_callB call_isi (by rfl) (T.free 91) (by decide +kernel) (pa_cons (pv 0) (pa_cons (pe_bltn (v := .ty "tuple") rfl (T.free 97) (by decide +kernel) rfl) pa_nil))) (pe_one (pe_cmpR op_eq (pe_callB call_len_seq (by rfl) (T.free 92) (by decide +kernel) (pa_cons (pv 0) pa_nil)) (pv 1) (nomark _)))))), ?_⟩
  refine ⟨_, rfl, _, _, .type "tuple", .type "tuple", true, rfl, .ty _, .base (.tup ha), kit_ty (by decide +kernel), true, rfl, iteT ?_⟩
  exact ⟨_, rfl, a, xs, rfl, .inr (SqT.of ha), _, rfl, rfl, q⟩
def sp_is_word_of : Sp := fun vs H Q _ => ∃ z s : Str, vs = [.str z, .str s] ∧ (∀ c ∈ z.cps.toList, c ∈ s.cps.toList) ∧ z.length ≤ 1000000 ∧ ∀ H', Same H H' → Q (.bl true) H'
abbrev nn_is_word_of : List Str := ["thing", "signs", "sign"]
theorem sc_is_word_of : FnScope nn_is_word_of ["thing", "signs"] d_is_word_of.scope := ⟨rfl, rfl, rfl, by decide +kernel, rfl, by decide +kernel, by decide +kernel⟩
theorem ok_is_word_of (T : Top w K mg) : OK P w K mg base 1 "is_word_of" ["thing", "signs"] sp_is_word_of := by
  refine Has.ok (d := d_is_word_of) (T.has 3 6 rfl rfl rfl rfl rfl) sc_is_word_of (fun _ _ _ _ _ _ us hl => match us, hl with | [_, _], _ => rfl) (by rintro _ _ _ _ ⟨_, _, rfl, _⟩; rfl) (fun f cdv A outer s H vs Q E hr h => ?_)
  obtain ⟨z, s, rfl, hz, hl, q⟩ := h
  refine ⟨_, (pss_one (ps_ret (pe_and (pe_callB call_isi (by rfl) (T.free 91) (by decide +kernel) (pa_cons (pv 0) (pa_cons (pe_bltn (v := .ty "str") rfl (T.free 101) (by decide +kernel) rfl) pa_nil))) (pe_one (pe_callB (cr_all rfl) (by rfl) (T.free 93) (by decide +kernel) (pa_cons (pe_lc (own := [("sign", 2)]) rfl sc_is_word_of.nd (pi_str (pv 0)) (blkOk_by (N := nn_is_word_of) (sc := d_is_word_of.scope) (by decide +kernel)) (fun _ _ _ _ _ => (pg_name (i := 2) sc_is_word_of.nd rfl (.inl rfl))) (fun _ _ _ _ _ => pts_nil) (fun _ _ _ _ _ => (pe_cmpR op_in_sign (pv 2) (pv 1) (by rfl)))) pa_nil)))))), ?_⟩
  refine ⟨_, rfl, _, _, .type "str", .type "str", true, rfl, .ty _, .base (.str z), kit_ty (by decide +kernel), true, rfl, iteT ?_⟩
  refine ⟨_, rfl, z, rfl, lc_all walk_str hl (fun _ _ => trivial) (fun i x H H2 hi s1 hy C k => ?_) fun D H' bs s1 e eb => ⟨D, bs, rfl, .of e, by rw [eb]; exact q H' s1⟩⟩
  obtain ⟨rfl, c, hc, rfl⟩ := hy
  refine ⟨rfl, _, rfl, _, rfl, c, s, rfl, rfl, ?_⟩
  rw [decide_eq_true (hz c (by
    rw [← Array.getElem?_toList] at hc
    exact List.mem_of_getElem? hc))]
  exact k _ (Same.refl _)
end
end NP
/-! NPRules -/
namespace NP
open PySem PySem.Spec PyProof.Rows L2
/-! ## rules that the layer lacks -/
section
variable {X : Cx}
/-! ### == and != with a new empty list or tuple -/
theorem isList_of {h : Heap} {a : Addr} {its : Array Value} (p : PlainL h a its) : h.IsList a its := by
  obtain ⟨o, m, e, c, d, q⟩ := p
  exact ⟨o, e, c, m, q⟩
theorem isTuple_of {h : Heap} {a : Addr} {its : Array Value} (p : IsTup h a its) : h.IsTuple a its := by
  obtain ⟨o, e, c, m, q⟩ := p
  exact ⟨o, e, c, m, q⟩
def rNilL (K : PySem.W.Frag) (neg : Bool) : R2 := fun x y H Q => ∃ a b xs, x = .ref a ∧ y = .ref b ∧ SqL K H a xs ∧ SqL K H b [] ∧ Q (.bl (if neg then !xs.isEmpty else xs.isEmpty)) H
def rNilT (K : PySem.W.Frag) (neg : Bool) : R2 := fun x y H Q => ∃ a b xs, x = .ref a ∧ y = .ref b ∧ SqT K H a xs ∧ SqT K H b [] ∧ Q (.bl (if neg then !xs.isEmpty else xs.isEmpty)) H
theorem op_eqNilL (hu : X.A.units < cLine) : OpR X (compareOp .Eq) (rNilL X.K false) := by
  intro pins s σ H x y v u Q I rx ry h
  obtain ⟨a, b, xs, rfl, rfl, h1, h2, q⟩ := h
  cases rx
  cases ry
  obtain ⟨i1, r1, p1, z1⟩ := I.list h1
  obtain ⟨i2, r2, p2, z2⟩ := I.list h2
  cases r2
  cases xs with
  | nil =>
    cases r1
    exact (SeqAt.RcAt.lists (e := fun _ => true) (isList_of p1) (isList_of p2) rfl hu (fun j h1 => absurd h1 (Nat.not_lt_zero _))) _ _ _ _ ⟨.bl true, H, I, rfl, q⟩
  | cons z zs =>
    cases r1
    exact (SeqAt.RcAt.lists_lengths (isList_of p1) (isList_of p2) (by simp) hu) _ _ _ _ ⟨.bl false, H, I, rfl, q⟩
theorem op_neNilL (hu : X.A.units < cLine) : OpR X (compareOp .NotEq) (rNilL X.K true) := by
  intro pins s σ H x y v u Q I rx ry h
  obtain ⟨a, b, xs, rfl, rfl, h1, h2, q⟩ := h
  cases rx
  cases ry
  obtain ⟨i1, r1, p1, z1⟩ := I.list h1
  obtain ⟨i2, r2, p2, z2⟩ := I.list h2
  cases r2
  cases xs with
  | nil =>
    cases r1
    exact (SeqAt.RcNeAt.lists (e := fun _ => true) (isList_of p1) (isList_of p2) rfl hu (fun j h1 => absurd h1 (Nat.not_lt_zero _))) _ _ _ _ ⟨.bl false, H, I, rfl, q⟩
  | cons z zs =>
    cases r1
    exact (SeqAt.RcNeAt.lists_lengths (isList_of p1) (isList_of p2) (by simp) hu) _ _ _ _ ⟨.bl true, H, I, rfl, q⟩
theorem op_eqNilT (hu : X.A.units < cLine) : OpR X (compareOp .Eq) (rNilT X.K false) := by
  intro pins s σ H x y v u Q I rx ry h
  obtain ⟨a, b, xs, rfl, rfl, h1, h2, q⟩ := h
  cases rx
  cases ry
  obtain ⟨i1, r1, p1, z1⟩ := I.tuple h1
  obtain ⟨i2, r2, p2, z2⟩ := I.tuple h2
  cases r2
  refine (SeqAt.RcAt.tuples (e := fun _ => true) (isTuple_of p1) (isTuple_of p2) hu (fun j h1 h2 => absurd h2 (Nat.not_lt_zero _))) _ _ _ _ ⟨.bl xs.isEmpty, H, I, ?_, q⟩
  cases r1 <;> simp <;> rfl
theorem op_neNilT (hu : X.A.units < cLine) : OpR X (compareOp .NotEq) (rNilT X.K true) := by
  intro pins s σ H x y v u Q I rx ry h
  obtain ⟨a, b, xs, rfl, rfl, h1, h2, q⟩ := h
  cases rx
  cases ry
  obtain ⟨i1, r1, p1, z1⟩ := I.tuple h1
  obtain ⟨i2, r2, p2, z2⟩ := I.tuple h2
  cases r2
  refine (SeqAt.RcNeAt.tuples (e := fun _ => true) (isTuple_of p1) (isTuple_of p2) hu (fun j h1 h2 => absurd h2 (Nat.not_lt_zero _))) _ _ _ _ ⟨.bl (!xs.isEmpty), H, I, ?_, q⟩
  cases r1 <;> simp <;> rfl
/-! ### a text times a number -/
def repS (z : Str) (n : Nat) : Str := ⟨((List.replicate n z.cps.toList).flatten).toArray⟩
theorem tl_repS (z : Str) (n : Nat) : TL.tl (repS z n) = (List.replicate n (TL.tl z)).flatten := TL.tl_mk _
theorem foldl_app (c : Array Nat) : ∀ (n : Nat) (acc : Array Nat), ((List.replicate n c).foldl (· ++ ·) acc).toList = acc.toList ++ (List.replicate n c.toList).flatten
  | 0, acc => by simp
  | n + 1, acc => by
    rw [List.replicate_succ, List.foldl_cons, foldl_app c n, List.replicate_succ, List.flatten_cons, Array.toList_append, List.append_assoc]
theorem mul_repS (z : Str) (n : Nat) : Txt.mul z (n : Int) = repS z n := by
  refine TL.ext_tl ?_
  rw [tl_repS]
  unfold Txt.mul
  by_cases h : (n : Int) < 1
  · have e : n = 0 := by omega
    subst e
    rw [if_pos h]
    rfl
  · rw [if_neg h]
    by_cases h2 : ((n : Int) == 1 || z.length == 0) = true
    · rw [if_pos h2]
      rcases Bool.or_eq_true_iff.mp h2 with h3 | h3
      · have e : n = 1 := by have := of_decide_eq_true h3; omega
        subst e
        simp
      · have e : TL.tl z = [] := by
          have h4 : z.length = 0 := by simpa using h3
          rw [TL.len_tl] at h4
          exact List.length_eq_zero_iff.mp h4
        rw [e]
        induction n with
        | zero => rfl
        | succ n ih => simp
    · rw [if_neg h2]
      show ((List.replicate ((n : Int)).toNat z.cps).foldl (· ++ ·) #[]).toList = _
      rw [foldl_app]
      simp
theorem op_mul_str : OpR X (binaryOp .Mult) (fun x y H Q => ∃ (z : Str) (n : Nat), x = .str z ∧ y = .int n ∧ n ≤ 1000 ∧ z.length ≤ 1000 ∧ Q (.str (repS z n)) H) := by
  intro pins s σ H x y v u Q I rx ry h
  obtain ⟨z, n, rfl, rfl, hn, hz, q⟩ := h
  obtain ⟨t, rfl⟩ := rx
  obtain ⟨t', rfl⟩ := ry
  have hm : z.length * n ≤ 1000 * 1000 := Nat.mul_le_mul hz hn
  refine SB.mul ⟨?_, fun h1 _ h3 => ?_, fun _ _ => ?_⟩ fun t'' k => ⟨.str (repS z n), H, I.tok k, ⟨t'', by rw [mul_repS]⟩, q⟩
  · rw [decide_eq_false (by omega : ¬ (n : Int) < -(2 ^ 63)), decide_eq_false (by omega : ¬ (n : Int) ≥ 2 ^ 63)]
    rfl
  · have h4 : (1000 : Int) ≤ (2 ^ 63 - 1) / n := by
      refine Int.le_ediv_of_mul_le (by omega) ?_
      have : (1000 : Int) * n ≤ 1000 * 1000 := by omega
      omega
    omega
  · unfold Builtin.Str.tooLong
    simp only [Int.toNat_natCast, decide_eq_false_iff_not]
    have : (1000 * 1000 : Nat) < sizeLine := by decide
    omega
/-! ### match of a list or tuple of texts with sequence patterns of texts and names -/
abbrev MP : Type := Sum Str Nat
/-- it matches: what is bound (slots, texts) -/
inductive MHit : List MP → List Str → List (Nat × Str) → Prop where
  | nil : MHit [] [] []
  | val {z : Str} {ps : List MP} {zs : List Str} {bs : List (Nat × Str)} : MHit ps zs bs → MHit (.inl z :: ps) (z :: zs) bs
  | cap {i : Nat} {z : Str} {ps : List MP} {zs : List Str} {bs : List (Nat × Str)} : MHit ps zs bs → MHit (.inr i :: ps) (z :: zs) ((i, z) :: bs)
/-- of the same length, but some text is another -/
inductive MOdd : List MP → List Str → Prop where
  | here {z y : Str} {ps : List MP} {zs : List Str} : z ≠ y → MOdd (.inl y :: ps) (z :: zs)
  | val {z y : Str} {ps : List MP} {zs : List Str} : MOdd ps zs → MOdd (.inl y :: ps) (z :: zs)
  | cap {i : Nat} {z : Str} {ps : List MP} {zs : List Str} : MOdd ps zs → MOdd (.inr i :: ps) (z :: zs)
def setB (σ : L2.St) (bs : List (Nat × Str)) : L2.St := bs.foldl (fun σ b => σ.set b.1 (some (.str b.2))) σ
/-- the names that the patterns bind -/
inductive MNames (X : Cx) : List (Nat × Str) → List (Str × Value) → Prop where
  | nil : MNames X [] []
  | cons {i : Nat} {z x : Str} {u : Value} {bs : List (Nat × Str)} {us : List (Str × Value)} : X.N[i]? = some x → X.env.scope.names.lookup x = some .local → L2.RelV (.str z) u → MNames X bs us → MNames X ((i, z) :: bs) ((x, u) :: us)
theorem MNames.app {bs cs : List (Nat × Str)} {us ws : List (Str × Value)} (h : MNames X bs us) (r : MNames X cs ws) : MNames X (bs ++ cs) (us ++ ws) := by
  induction h with
  | nil => exact r
  | cons a b c _ ih => exact .cons a b c ih
structure MPs (X : Cx) (ps : List Pattern) (qs : List MP) : Prop where
  len : ps.length = qs.length
  hit : ∀ (pins : List (Addr × Obj)) (s : Shared) (σ : L2.St) (H : Hp) (zs : List Str) (us : List Value) (bs : List (Nat × Str)) (Q : Option (List (Str × Value)) → Shared → Prop), L2.Inv X pins σ H s → Vals (zs.map V.str) us → MHit qs zs bs →
    (∀ s' ns, L2.Inv X pins σ H s' → MNames X bs ns → Q (some ns) s') → wpAny (model X.prog X.w) X.A (matchEach ps X.env us) Q X.xe s
  odd : ∀ (pins : List (Addr × Obj)) (s : Shared) (σ : L2.St) (H : Hp) (zs : List Str) (us : List Value) (Q : Option (List (Str × Value)) → Shared → Prop), L2.Inv X pins σ H s → Vals (zs.map V.str) us → MOdd qs zs →
    (∀ s', L2.Inv X pins σ H s' → Q none s') → wpAny (model X.prog X.w) X.A (matchEach ps X.env us) Q X.xe s
theorem mps_nil : MPs X [] [] where
  len := rfl
  hit := fun pins s σ H zs us bs Q I r h q => by
    cases h
    cases r
    exact wpAny_matchEach_nil (q s [] I .nil)
  odd := fun pins s σ H zs us Q I r h q => nomatch h
theorem mps_str {y : Str} {k : Nat} {p1 p2 : Pos} {ps : List Pattern} {qs : List MP} (h : MPs X ps qs) : MPs X (.MatchValue (.Constant (.str y) k p1) p2 :: ps) (.inl y :: qs) where
  len := by rw [List.length_cons, List.length_cons, h.len]
  hit := fun pins s σ H zs us bs Q I r hm q => by
    cases hm with
    | val hm =>
      cases r with
      | cons r1 r2 =>
        refine wpAny_matchEach_cons (wpAny_matchPattern_Value (Calls.Constant_str ?_))
        refine thn (op_eq pins _ σ H (.str y) (.str y) _ _ (fun v H' => v = .bl true ∧ H' = H) (I.tok _) r1 ⟨_, rfl⟩ ⟨rfl, by rw [decide_eq_true rfl], rfl⟩) fun c s1 ⟨v, H1, I1, rv, e1, e2⟩ => ?_
        subst e1 e2
        cases rv
        refine wpAny_truthy_bool ?_
        exact h.hit pins s1 σ _ _ _ bs _ I1 r2 hm fun s' ns I2 m => q s' ns I2 m
  odd := fun pins s σ H zs us Q I r hm q => by
    cases zs with
    | nil => cases hm
    | cons z zs =>
      cases r with
      | cons r1 r2 =>
        refine wpAny_matchEach_cons (wpAny_matchPattern_Value (Calls.Constant_str ?_))
        refine thn (op_eq pins _ σ H (.str z) (.str y) _ _ (fun v H' => v = .bl (decide (V.str z = V.str y)) ∧ H' = H) (I.tok _) r1 ⟨_, rfl⟩ ⟨rfl, rfl, rfl⟩) fun c s1 ⟨v, H1, I1, rv, e1, e2⟩ => ?_
        subst e1 e2
        cases rv
        refine wpAny_truthy_bool ?_
        by_cases e : z = y
        · subst e
          rw [decide_eq_true rfl]
          cases hm with
          | here hn => exact absurd rfl hn
          | val hm => exact h.odd pins s1 σ _ _ _ _ I1 r2 hm fun s' I2 => q s' I2
        · rw [decide_eq_false (fun z => e (V.str.inj z))]
          exact q s1 I1
theorem mps_cap {i : Nat} {x : Str} {p2 : Pos} {ps : List Pattern} {qs : List MP} (hi : X.N[i]? = some x) (hx : X.env.scope.names.lookup x = some .local) (h : MPs X ps qs) : MPs X (.MatchAs none (some x) p2 :: ps) (.inr i :: qs) where
  len := by rw [List.length_cons, List.length_cons, h.len]
  hit := fun pins s σ H zs us bs Q I r hm q => by
    cases hm with
    | cap hm =>
      cases r with
      | cons r1 r2 =>
        refine wpAny_matchEach_cons (wpAny_matchPattern_Capture ?_)
        exact h.hit pins s σ H _ _ _ _ I r2 hm fun s' ns I2 m => q s' _ I2 (.cons hi hx r1 m)
  odd := fun pins s σ H zs us Q I r hm q => by
    cases zs with
    | nil => cases hm
    | cons z zs =>
      cases r with
      | cons r1 r2 =>
        refine wpAny_matchEach_cons (wpAny_matchPattern_Capture ?_)
        cases hm with
        | cap hm => exact h.odd pins s σ H _ _ _ I r2 hm fun s' I2 => q s' I2
theorem store_names (hN : X.N.Nodup) : ∀ {bs : List (Nat × Str)} {ns : List (Str × Value)} {pins : List (Addr × Obj)} {s : Shared} {σ : L2.St} {H : Hp} {Q : Unit → Shared → Prop}, MNames X bs ns → L2.Inv X pins σ H s → (∀ s', L2.Inv X pins (setB σ bs) H s' → Q () s') →
    wpAny (model X.prog X.w) X.A (assignInOrder (ns.map fun (n, _) => bindName X.env n) (ns.map (·.2))) Q X.xe s
  | _, _, _, _, _, _, _, .nil, I, q => assignInOrder_nil (q _ I)
  | _, _, _, _, _, _, _, .cons hi hx r m, I, q => assignInOrder_cons (wpAny_bindName (store_ok I hN hi (.inl hx) r (fun s2 I2 => store_names hN m I2 q) (.inr hx)))
/-- the cases of a match, over the texts zs -/
abbrev TMs := List Str → TS
structure MCs (X : Cx) (cs : List MatchCase) (t : TMs) : Prop where
  run : ∀ (first : Bool) (pins : List (Addr × Obj)) (s : Shared) (σ : L2.St) (H : Hp) (D : Ends) (a : Addr) (zs : List Str), L2.Inv X pins σ H s → (SqL X.K H a (zs.map V.str) ∨ SqT X.K H a (zs.map V.str)) → t zs D σ H →
    wpAny (model X.prog X.w) X.A (matchCases cs X.env (.ref a) first) (L2.SP X pins D) X.xe s
def mNil : TMs := fun _ D σ H => D.nx σ H
/-- another length, or another text: the next case; or what is bound -/
def mCons (qs : List MP) (t : TS) (u : TMs) : TMs := fun zs D σ H => (zs.length ≠ qs.length ∧ u zs D σ H) ∨ (MOdd qs zs ∧ zs.length = qs.length ∧ u zs D σ H) ∨ ∃ bs, MHit qs zs bs ∧ t D (setB σ bs) H
theorem mcs_nil : MCs X [] mNil := ⟨fun first pins s σ H D a zs I _ h => wpAny_matchCases_nil ⟨σ, H, I, h⟩⟩
theorem MHit.len {qs : List MP} {zs : List Str} {bs : List (Nat × Str)} (h : MHit qs zs bs) : zs.length = qs.length := by
  induction h with
  | nil => rfl
  | val _ ih => rw [List.length_cons, List.length_cons, ih]
  | cap _ ih => rw [List.length_cons, List.length_cons, ih]
theorem mcs_cons {ps : List Pattern} {pos : Pos} {body : List Stmt} {cs : List MatchCase} {qs : List MP} {t : TS} {u : TMs} (hc : X.calm = true) (hN : X.N.Nodup) (hp : MPs X ps qs) (hb : L2.PSs X body t) (hr : MCs X cs u) (hstar : ps.findIdx? (·.isStar) = none := by rfl)
    (hwild : (ps.all fun p => p.isWildcard || (p.isStar && p.names.isEmpty)) = false := by rfl) : MCs X (⟨.MatchSequence ps pos, none, body⟩ :: cs) (mCons qs t u) := by
  refine ⟨fun first pins s σ H D a zs I hz h => ?_⟩
  refine wpAny_matchCases_cons ?_
  have line : (sizeLine : Nat) < 2 ^ 63 := by decide
  -- the subject's items
  have key : ∃ its : List Value, Vals (zs.map V.str) its ∧ its.length = zs.length ∧
      (∀ R : Option (List (Str × Value)) → Shared → Prop, its.length ≠ ps.length → R none { s with toks := s.toks + 1 + 1 } → wpAny (model X.prog X.w) X.A (matchPattern (.MatchSequence ps pos) X.env (.ref a)) R X.xe s) ∧
      (∀ R : Option (List (Str × Value)) → Shared → Prop, its.length = ps.length → (∀ s', L2.Inv X pins σ H s' → wpAny (model X.prog X.w) X.A (matchEach ps X.env its) R X.xe s') → wpAny (model X.prog X.w) X.A (matchPattern (.MatchSequence ps pos) X.env (.ref a)) R X.xe s) := by
    rcases hz with hz | hz
    · obtain ⟨its, rv, pl, hl⟩ := I.list hz
      have hl' := isList_of pl
      have e : its.length = zs.length := by rw [← rv.length, List.length_map]
      have sz : (its.toArray.size : Int) < 2 ^ 63 := by
        rw [List.size_toArray, e]
        rw [List.length_map] at hl
        omega
      refine ⟨its, rv, e, fun R hn q => matchSeq_list_miss hl' sz (by simpa using hn) q hstar hwild, fun R hn q => matchSeq_list_hit hl' sz (by simpa using hn) ?_ hstar hwild⟩
      rw [show ps.length = its.toArray.size by simp [hn]]
      refine PySem.W.kun_itemsOf (I.ok.hd hc) hl' fun h' hx => ?_
      rw [show its.toArray.toList = its from rfl]
      exact q _ (I.kept (h' := h') (t' := s.toks + 1 + 1) fun b o e => hx b o (Nat.ne_of_lt (Heap.lt_size e)) e)
    · obtain ⟨its, rv, ht, hl⟩ := I.tuple hz
      have e : its.length = zs.length := by rw [← rv.length, List.length_map]
      have sz : (its.toArray.size : Int) < 2 ^ 63 := by
        rw [List.size_toArray, e]
        rw [List.length_map] at hl
        omega
      refine ⟨its, rv, e, fun R hn q => matchSeq_tuple_miss ht sz (by simpa using hn) q hstar hwild, fun R hn q => matchSeq_tuple_hit ht sz (by simpa using hn) ?_ hstar hwild⟩
      rw [show ps.length = its.toArray.size by simp [hn]]
      refine unpackItems_tuple (I.ok.hd hc) ht fun h' hx => ?_
      rw [show its.toArray.toList = its from rfl]
      exact q _ (I.kept (h' := h') (t' := s.toks + 1 + 1) fun b o e => hx b o (Nat.ne_of_lt (Heap.lt_size e)) e)
  obtain ⟨its, rv, e, miss, hit⟩ := key
  rcases h with ⟨hn, h⟩ | ⟨ho, hn, h⟩ | ⟨bs, hm, h⟩
  · refine miss _ (by rw [e, hp.len]; exact hn) ?_
    exact hr.run false pins _ σ H D a zs (I.tok _) hz h
  · refine hit _ (by rw [e, hp.len]; exact hn) fun s1 I1 => ?_
    exact hp.odd pins s1 σ H zs its _ I1 rv ho fun s2 I2 => hr.run false pins s2 σ H D a zs I2 hz h
  · refine hit _ (by rw [e, hp.len]; exact hm.len) fun s1 I1 => ?_
    refine hp.hit pins s1 σ H zs its bs _ I1 rv hm fun s2 ns I2 m => ?_
    exact store_names hN m I2 fun s3 I3 => hb.run pins s3 _ H D I3 h
def tMatch (K : PySem.W.Frag) (te : TE) (t : TMs) : TS := fun D σ H => te σ H fun x H1 => ∃ a zs, x = .ref a ∧ (SqL K H1 a (zs.map V.str) ∨ SqT K H1 a (zs.map V.str)) ∧ t zs D σ H1
theorem ps_match {subject : Expr} {cs : List MatchCase} {pos : Pos} {te : TE} {t : TMs} (he : PE X subject te) (hc : MCs X cs t) : L2.PS X (.Match subject cs pos) (tMatch X.K te t) := by
  refine ⟨fun pins s σ H D I h => ?_⟩
  refine wpAny_Match (thn (he.run pins s σ H _ I h) fun v s1 ⟨x, H1, I1, r1, a, zs, e, hz, q⟩ => ?_)
  subst e
  cases r1
  exact hc.run true pins s1 σ H1 D a zs I1 hz q
end
end NP
/-! NPRulesC -/
namespace NP
open PySem PySem.Spec PyProof.Rows L2
/-! ### list(reversed(a list)) -/
section
variable {prog : Program} {w : World} {A : Around} {E : Value → Shared → Prop} {s : Shared}
open PyProof.Rows RT in
theorem call_list_rev {it l : Addr} {items : Array Value} {Q : Value → Shared → Prop} (hh : A.handled = none) (hit : s.heap.IsRevIter it l ((items.size : Int) - 1)) (hl : s.heap.IsList l items) (hne : l ≠ it) (hn : items.size ≤ sizeLine)
    (hQ : ∀ (h' : Heap) (tk : Nat) (acc : Array Value) (c : Nat), (∀ b o, b ≠ it → s.heap.get? b = some o → h'.get? b = some o) → h'.get? s.heap.objs.size = some { cls := .type "list", dict := none, data := .seq acc c, slots := #[] } → ItemsOf (fun i v => items[items.size - 1 - i]? = some v) acc items.size →
      Q (.ref s.heap.objs.size) { s with heap := h', toks := tk }) :
    wpAny (model prog w) A (call (.type "list") [.ref it]) Q E s := by
  have W := (Walks.listRev (prog := prog) (w := w) (A := A.in1.in1) hh it l hne items).toS
  obtain ⟨oi, hoi, _⟩ := id hit
  obtain ⟨ol, hol, _⟩ := id hl
  have hSi : s.heap.objs.size ≠ it := Nat.ne_of_gt (Heap.lt_size hoi)
  have hSl : s.heap.objs.size ≠ l := Nat.ne_of_gt (Heap.lt_size hol)
  have hSf : s.heap.objs.size ∉ [it, l] := by simp only [List.mem_cons, List.not_mem_nil, or_false, not_or]; exact ⟨hSi, hSl⟩
  refine callType_codes (Q₁ := fun obj s₁ => obj = .ref s.heap.objs.size ∧ s₁ = { s with heap := s.heap.push { cls := .type "list", data := .seq #[] } }) F.called_list (F.typeCall_list_1 _) F.entry_list_init
    (code_list_new _ ⟨rfl, rfl⟩) fun obj s₁ h₁ => ?_
  obtain ⟨rfl, rfl⟩ := h₁
  have hS : (s.heap.push { cls := .type "list", data := .seq #[] }).get? s.heap.objs.size = some { cls := .type "list", data := .seq #[] } := Heap.get?_push_size _ rfl
  refine ⟨⟨_, hS, rfl⟩, F.args_list_init_2 _ _, ?_⟩
  show wpAny _ A.in1.in1 (do let old ← Builtin.List.listItems (.ref s.heap.objs.size); Builtin.List.listUpdate (.ref s.heap.objs.size) (fun _ => #[]); letGo old.toList.reverse; Builtin.List.listExtendWith (.ref s.heap.objs.size) (.ref it) .none) _ _ _
  refine wpAny_bind ?_
  unfold Builtin.List.listItems
  refine wpAny_bind (wpAny_seqItems hS rfl (wpAny_pure ?_))
  show wpAny _ A.in1.in1 (updateSeq s.heap.objs.size (fun _ => #[]) >>= fun _ => letGo (#[] : Array Value).toList.reverse >>= fun _ => Builtin.List.listExtendWith (.ref s.heap.objs.size) (.ref it) .none) _ _ _
  refine wpAny_bind (wpAny_updateSeq hS rfl ?_)
  have hS2 := Heap.get?_update_self (Obj.mapSeq (fun _ => (#[] : Array Value))) hS rfl
  have oth : ∀ b o, b ≠ s.heap.objs.size → s.heap.get? b = some o → ((s.heap.push { cls := .type "list", data := .seq #[] }).update s.heap.objs.size (Obj.mapSeq (fun _ => (#[] : Array Value)))).get? b = some o :=
    fun b o hb e => (Heap.get?_update_other _ _ (Ne.symm hb)).trans (Heap.get?_push_of_some _ e)
  refine wpAny_bind (wpAny_letGo ?_)
  have hit1 : ((s.heap.push { cls := .type "list", data := .seq #[] }).update s.heap.objs.size (Obj.mapSeq (fun _ => (#[] : Array Value)))).IsRevIter it l ((items.size : Int) - 1) := hit.at fun o e => oth _ _ (Ne.symm hSi) e
  have hl1 : ((s.heap.push { cls := .type "list", data := .seq #[] }).update s.heap.objs.size (Obj.mapSeq (fun _ => (#[] : Array Value)))).IsList l items := let ⟨o, a, b, c⟩ := hl; ⟨o, oth _ _ (Ne.symm hSl) a, b, c⟩
  have hT : ({ s with heap := (s.heap.push { cls := .type "list", data := .seq #[] }).update s.heap.objs.size (Obj.mapSeq (fun _ => (#[] : Array Value))) } : Shared).TypeIs (.ref it) "list_reverseiterator" := Heap.IsRevIter.typeIs (s := { s with heap := _ }) hit1
  have h1 : Builtin.List.listSameRef (.ref s.heap.objs.size) (.ref it) = false := by simp [Builtin.List.listSameRef, hSi]
  unfold Builtin.List.listExtendWith
  refine wpAny_bind (wpAny_typeOf hT ?_)
  rw [if_neg (by rw [h1]; decide)]
  refine wpAny_bind (wpAny_pyIter_revIter (s := { s with heap := _ }) hit1 ?_)
  refine wpAny_bind (wpAny_holding ?_)
  unfold Builtin.List.listLengthHint
  refine wpAny_bind (wpAny_specialOf hT nolen_lri ?_)
  show wpAny _ A.in1.in1 (specialOf (Value.ref it) (Str.ofString "__length_hint__") >>= _) _ _ _
  refine wpAny_bind (wpAny_specialOf hT hint_lri ?_)
  generalize hid : ("list_reverseiterator.__length_hint__" : String) = id0
  wp_delta
  rw [show splitId id0 = some ("list_reverseiterator", "__length_hint__") from by subst hid; decide +kernel]
  subst hid
  refine wpAny_bind (wpAny_isInstance (b := true) hT (by rw [isSubtype_type]; kernel_rfl) ?_)
  refine wpAny_pure ?_
  rw [if_neg (by decide)]
  have e0 : ((items.size : Nat) : Int) - 1 - ((0 : Nat) : Int) = (items.size : Int) - 1 := by omega
  refine wpAny_pure ⟨plainId_quiet F.plain_extend_loop _, codeAny_extend_loopS W hn _ hSf _ items.size 0 _ _ _ rfl (Nat.zero_le _) ⟨Nat.zero_le _, by rw [e0]; exact hit1, hl1⟩ hS2 (ItemsOf.nil _) fun s' acc' c' hm hS' hacc => ?_⟩
  refine ⟨rfl, ?_⟩
  rw [Moved.eq_with hm]
  refine hQ s'.heap s'.toks acc' c' (fun b o hb e => hm.heap b o (fun hmem => ?_) (oth b o (Nat.ne_of_lt (Heap.lt_size e)) e)) hS' hacc
  rcases List.mem_cons.mp hmem with e' | hmem
  · exact absurd (Heap.lt_size e) (by rw [e']; exact Nat.lt_irrefl _)
  · exact hb (List.mem_singleton.mp hmem)
end
def tLstRev (K : PySem.W.Frag) (te : TE) : TE := fun σ H Q => te σ H fun v H1 => ∃ (a : Addr) (xs : List V), v = .ref a ∧ SqL K H1 a xs ∧ ∀ q, H1 q = none → Q (.ref q) (upd H1 q (.lst xs.reverse))
section
variable {X : Cx}
theorem pe_lstRev {e : Expr} {te : TE} {p p2 pos pos2 : Pos} (hc : X.calm = true) (hg : Gl X "list") (hm : X.mg "list" = none) (hg2 : Gl X "reversed") (hm2 : X.mg "reversed" = none) (he : PE X e te)
    (hs : starEach [e] X.env = (false, eval e X.env) :: starEach [] X.env := by rfl)
    (hs2 : starEach [.Call (.Name "reversed" p2) [e] [] pos2] X.env = (false, eval (.Call (.Name "reversed" p2) [e] [] pos2) X.env) :: starEach [] X.env := by rfl) :
    PE X (.Call (.Name "list" p) [.Call (.Name "reversed" p2) [e] [] pos2] [] pos) (tLstRev X.K te) := by
  refine ⟨fun pins s σ H Q I h => ?_⟩
  refine Call_ (ld_blt I hg hm boot_list (PyProof.Rows.callWith_type1 (args_cons (Call_ (ld_blt I hg2 hm2 PyProof.Rows.boot_reversed (PyProof.Rows.callWith_type1 (args_cons (thn (he.run pins s σ H _ I h) fun u s1 ⟨v, H1, I1, r1, q1⟩ => args_nil ?_) hs) hs rfl))) hs2) hs2 rfl))
  obtain ⟨a, xs, ev, hq, q⟩ := q1
  subst ev
  obtain rfl : u = Value.ref a := r1
  obtain ⟨its, rv, p', hz⟩ := I1.list hq
  refine PySem.call_reversed_list p'.isList (args_nil ?_)
  have k0 : ∀ b o, s1.heap.get? b = some o → (s1.heap.push (revObj a ((its.toArray.size : Int) - 1))).get? b = some o := fun b o e => Heap.get?_push_of_some _ e
  have I2 : L2.Inv X pins σ H1 { s1 with heap := s1.heap.push (revObj a ((its.toArray.size : Int) - 1)) } := I1.kept (t' := s1.toks) k0
  obtain ⟨f0, f1, f2, f3, f4, f5⟩ := I1.fpOk (H' := H1) (b := s1.heap.objs.size) (Nat.le_refl _) (I1.hok.fresh (Nat.le_refl _))
  have hl := p'.isList
  obtain ⟨ol, hol, _⟩ := id hl
  have hne : a ≠ s1.heap.objs.size := Nat.ne_of_lt (Heap.lt_size hol)
  have hn : its.toArray.size ≤ sizeLine := by rw [List.size_toArray, ← rv.length]; exact hz
  have sz : (s1.heap.push (revObj a ((its.toArray.size : Int) - 1))).objs.size = s1.heap.objs.size + 1 := by rw [Heap.size_push]
  refine call_list_rev (s := { s1 with heap := s1.heap.push (revObj a ((its.toArray.size : Int) - 1)) }) (I1.ok.hd hc) ⟨_, Heap.get?_push_size _ rfl, rfl, rfl⟩ (hl.push _) hne hn fun h' tk acc c hk hS' hi => ?_
  have hfr : H1 (s1.heap.objs.size + 1) = none := I1.hok.fresh (Nat.le_succ _)
  rw [sz] at hS'
  show EP X pins σ Q (.ref (s1.heap.push (revObj a ((its.toArray.size : Int) - 1))).objs.size) _
  rw [sz]
  refine ⟨.ref (s1.heap.objs.size + 1), upd H1 (s1.heap.objs.size + 1) (.lst xs.reverse), ?_, rfl, q _ hfr⟩
  refine I1.turnedNew (t' := tk) (ch := [s1.heap.objs.size]) (fun b o hb e => hk b o (fun z => hb (by simp [z])) (k0 b o e)) (fun b hb => ?_) (Nat.le_succ _) ?_
  · have e : b = s1.heap.objs.size := by simpa using hb
    subst e
    exact ⟨f0, f1, f2, f3, f4, f5⟩
  · exact (show ObjOk X.prog X.w _ h' _ (.lst xs.reverse) from ⟨by rw [List.length_reverse]; exact hz, acc.toList, c, RT.vals_rev rv hi, by rw [Array.toArray_toList]; exact hS'⟩)
end
end NP
/-! NPTabs -/
namespace NP
open PySem PySem.Spec PyProof.Rows L2
/-! ### d.get of a written dict of the top -/
def tKGet1 (K : PySem.W.Frag) (d : Addr) (ty : TE) : TE := fun σ H Q => ty σ H fun y H1 => ∃ (z : Str) (r : Option V), y = .str z ∧ (match r with
  | none => PySem.W.nsIn K d z = some none
  | some v => ∃ u, PySem.W.nsIn K d z = some (some u) ∧ L2.RelV v u) ∧ Q (r.getD .non) H1
def tKGet2 (K : PySem.W.Frag) (d : Addr) (ty tx : TE) : TE := fun σ H Q => ty σ H fun y H1 => tx σ H1 fun x H2 => ∃ (z : Str) (r : Option V), y = .str z ∧ (match r with
  | none => PySem.W.nsIn K d z = some none
  | some v => ∃ u, PySem.W.nsIn K d z = some (some u) ∧ L2.RelV v u) ∧ Q (r.getD x) H2
section
variable {X : Cx} {o e f : Expr} {apos cpos : Pos} {ty tx : TE} {d : Addr} {es : Array DictEntry} {n : Nat}
theorem kd_nodict {pins : List (Addr × Obj)} {σ : L2.St} {H : Hp} {s : Shared} (D : KDict X.K X.w d es n) (I : L2.Inv X pins σ H s) : ∀ b, Value.ref d = .ref b → ∃ ob, s.heap.get? b = some ob ∧ ob.dict = none := fun b q => by
  cases q
  exact ⟨_, I.kIn d _ D.at_, rfl⟩
theorem pe_kget1 (D : KDict X.K X.w d es n) (ho : PE X o (tC (.ref d))) (he : PE X e ty) (m : M1 X o "get" apos e cpos) : PE X (.Call (.Attribute o "get" apos) [e] [] cpos) (tKGet1 X.K d ty) := by
  refine ⟨fun pins s σ H Q I h => ?_⟩
  refine wpAny_Call_method m.base m.few m.line PySem.F.plainAttrs_dict PySem.F.slot_dict_get PySem.F.type_dict_get (thn (ho.run pins s σ H (fun v H' => v = .ref d ∧ H' = H) I ⟨rfl, rfl⟩) fun u s1 ⟨x, H1, I1, rx, ex, eh⟩ => ?_)
  subst ex eh
  obtain rfl : u = Value.ref d := rx
  refine ⟨kd_type D I1, kd_nodict D I1, ?_⟩
  rw [m.trees]
  refine Calls.callWith_builtin rfl (Calls.evalArgs_plain (Calls.spliced_cons (thn (he.run pins s1 σ H1 _ I1 h) fun iv s2 ⟨y, H2, I2, ry, z, r, ez, hn, q2⟩ => Calls.spliced_nil ?_)))
  subst ez
  obtain ⟨t, rfl⟩ := ry
  have hm := PySem.W.mapOf_K (prog := X.prog) (w := X.w) I2.kIn D.at_ D.lit
  refine call_meetsIn PySem.F.slot_dict_get hm.typeIs PySem.F.entry_dict_get (PySem.F.args_dict_get_2 _ _) (meets_dict_get (strKind X.prog X.w) d (PySem.strKind_is X.prog X.w z t) D.low) ⟨_, hm, ?_⟩
  cases r with
  | none =>
    rw [PySem.W.find_K D.at_ hn]
    exact ⟨.non, H2, I2.tok _, rfl, q2⟩
  | some v =>
    obtain ⟨u, hn, ru⟩ := hn
    rw [PySem.W.find_K D.at_ hn]
    exact ⟨v, H2, I2.tok _, ru, q2⟩
theorem pe_kget2 (D : KDict X.K X.w d es n) (ho : PE X o (tC (.ref d))) (he : PE X e ty) (hf : PE X f tx) (m : M2 X o "get" apos e f cpos) : PE X (.Call (.Attribute o "get" apos) [e, f] [] cpos) (tKGet2 X.K d ty tx) := by
  refine ⟨fun pins s σ H Q I h => ?_⟩
  refine wpAny_Call_method m.base m.few m.line PySem.F.plainAttrs_dict PySem.F.slot_dict_get PySem.F.type_dict_get (thn (ho.run pins s σ H (fun v H' => v = .ref d ∧ H' = H) I ⟨rfl, rfl⟩) fun u s1 ⟨x, H1, I1, rx, ex, eh⟩ => ?_)
  subst ex eh
  obtain rfl : u = Value.ref d := rx
  refine ⟨kd_type D I1, kd_nodict D I1, ?_⟩
  rw [m.trees]
  refine Calls.callWith_builtin rfl (Calls.evalArgs_plain (Calls.spliced_cons (thn (he.run pins s1 σ H1 _ I1 h) fun iv s2 ⟨y, H2, I2, ry, q2⟩ =>
    Calls.spliced_cons (thn (hf.run pins s2 σ H2 _ I2 q2) fun fv s3 ⟨x, H3, I3, rz, z, r, ez, hn, q3⟩ => Calls.spliced_nil ?_))))
  subst ez
  obtain ⟨t, rfl⟩ := ry
  have hm := PySem.W.mapOf_K (prog := X.prog) (w := X.w) I3.kIn D.at_ D.lit
  refine call_meetsIn PySem.F.slot_dict_get hm.typeIs PySem.F.entry_dict_get (PySem.F.args_dict_get_3 _ _ _) (meets_dict_get_default (strKind X.prog X.w) d (PySem.strKind_is X.prog X.w z t) D.low fv) ⟨_, hm, ?_⟩
  cases r with
  | none =>
    rw [PySem.W.find_K D.at_ hn]
    exact ⟨x, H3, I3.tok _, rz, q3⟩
  | some v =>
    obtain ⟨u, hn, ru⟩ := hn
    rw [PySem.W.find_K D.at_ hn]
    exact ⟨v, H3, I3.tok _, ru, q3⟩
end
/-! ### what the tables hold -/
/-- at the key z of the table at d: a tuple of these | a text | nothing -/
def KTup (K : PySem.W.Frag) (d : Addr) (z : Str) (vs : List V) : Prop := ∃ a, PySem.W.nsIn K d z = some (some (.ref a)) ∧ ∀ H, SqT K H a vs
theorem entB_ok {K : PySem.W.Frag} {x k : Str} {vs : List He.Dv} (h : entB K x k vs = true) : KTup K (He.ga K x) k (vs.map (He.Dv.v K)) := by
  unfold entB at h
  obtain ⟨h0, h⟩ := He.ba h
  refine ⟨entA K x k, He.eqO_ok h0, fun H => ?_⟩
  cases q : K.lookup (entA K x k) with
  | none =>
    rw [q] at h
    cases h
  | some o =>
    obtain ⟨oc, od, dt, osl⟩ := o
    rw [q] at h
    cases oc with
    | type c =>
      cases dt with
      | seq its n =>
        obtain ⟨h1, h2⟩ := He.ba (show (decide (c = "tuple") && (decide (its.size ≤ sizeLine) && He.relAll (vs.map (He.Dv.v K)) its.toList)) = true from h)
        obtain ⟨h3, h4⟩ := He.ba h2
        exact .inr ⟨_, its, n, q, congrArg Value.type (of_decide_eq_true h1), rfl, of_decide_eq_true h3, He.relAll_ok h4⟩
      | _ => cases h
    | _ => cases dt <;> cases h
theorem entS_ok {K : PySem.W.Frag} {x k z : Str} (h : entS K x k z = true) : ∃ u, PySem.W.nsIn K (He.ga K x) k = some (some u) ∧ L2.RelV (.str z) u := by
  unfold entS at h
  split at h
  · rename_i y t q
    have e := of_decide_eq_true h
    subst e
    exact ⟨_, q, t, rfl⟩
  · cases h
section
variable {w : World} {K : PySem.W.Frag} {mg : Str → Option Value}
theorem Top.tupE (T : Top w K mg) (i : Nat) {x k : Str} {l : List He.Dv} (h : tupEnts[i]? = some (x, k, l) := by rfl) : KTup K (He.ga K x) k (l.map (He.Dv.v K)) := by
  obtain ⟨h1, _⟩ := He.ba (show exs K = true from T.says.2)
  exact entB_ok (List.all_eq_true.mp h1 _ (List.mem_of_getElem? h))
theorem Top.strE (T : Top w K mg) (i : Nat) {x k z : Str} (h : strEnts[i]? = some (x, k, z) := by rfl) : ∃ u, PySem.W.nsIn K (He.ga K x) k = some (some u) ∧ L2.RelV (.str z) u := by
  obtain ⟨_, h1⟩ := He.ba (show exs K = true from T.says.2)
  obtain ⟨h1, _⟩ := He.ba h1
  exact entS_ok (List.all_eq_true.mp h1 _ (List.mem_of_getElem? h))
theorem Top.noE (T : Top w K mg) (i : Nat) {x k : Str} (h : noEnts[i]? = some (x, k) := by rfl) : PySem.W.nsIn K (He.ga K x) k = some none := by
  obtain ⟨_, h1⟩ := He.ba (show exs K = true from T.says.2)
  obtain ⟨_, h1⟩ := He.ba h1
  obtain ⟨h1, _⟩ := He.ba h1
  exact He.eqO_ok (List.all_eq_true.mp h1 _ (List.mem_of_getElem? h))
theorem Top.kwd (T : Top w K mg) (H : Hp) : SqT K H (He.ga K "KEYWORDS") (kwds.map (He.Dv.v K)) := by
  obtain ⟨_, h1⟩ := He.ba (show exs K = true from T.says.2)
  obtain ⟨_, h1⟩ := He.ba h1
  obtain ⟨_, h1⟩ := He.ba h1
  exact He.tupB_ok h1 H
theorem Top.tab (T : Top w K mg) (i : Nat) {t : He.Tab} (h : tbs[i]? = some t := by rfl) : ∃ es n, KDict K w (t.1 K) es n := T.says.1.tab i h
end
end NP
/-! NPRulesD -/
namespace NP
open PySem PySem.Spec PyProof.Rows L2
/-! ### walks of tuples: zip, reversed -/
theorem walk_zipT {K : PySem.W.Frag} {a b : Addr} {xs ys : List V} {n : Nat} (hn : n = min xs.length ys.length) : Walk (RZ.ItzT K a b) n (fun H => SqT K H a xs ∧ SqT K H b ys) (YPair (fun i => xs[i]?) (fun i => ys[i]?)) := by
  subst hn
  refine ⟨fun i _ hi q => ?_, fun _ q => ⟨xs, ys, q.1, q.2, by omega⟩, fun i H v H' _ q y => ?_⟩
  · have h1 : i < xs.length := by omega
    have h2 : i < ys.length := by omega
    exact ⟨xs, ys, xs[i], ys[i], q.1, q.2, by simp [h1], by simp [h2]⟩
  · obtain ⟨T, x, y, e1, e2, e3, e4, e5⟩ := y
    exact ⟨T, x, y, e1, e2, e3, e4 xs q.1, e5 ys q.2⟩
theorem walk_revT {K : PySem.W.Frag} {a : Addr} {xs : List V} : Walk (RT.ItvT K a xs.length) xs.length (fun H => SqT K H a xs) (fun i H x H' => H' = H ∧ xs[xs.length - 1 - i]? = some x) :=
  ⟨fun i _ hi q => ⟨hi, xs, xs[xs.length - 1 - i]'(by omega), q, by simp [show xs.length - 1 - i < xs.length by omega]⟩, fun _ _ => Nat.le_refl _, fun _ _ _ _ _ q y => ⟨y.1, y.2 xs q⟩⟩
/-! ### zip of two texts -/
def ItzS (x y : Str) : It := ⟨fun i _ => i < x.cps.size ∧ i < y.cps.size, fun i H v H' => ∃ T c d, v = .ref T ∧ H T = none ∧ H' = upd H T (.tup [.str ⟨#[c]⟩, .str ⟨#[d]⟩]) ∧ x.cps[i]? = some c ∧ y.cps[i]? = some d, fun i _ => i = min x.cps.size y.cps.size⟩
def zStS (z TI TO i1 i2 : Addr) (x y : Str) (t u : Tok) (i : Nat) (h : Heap) : Prop :=
  IsZip h z TI TO .none ∧ IsTupOf2 h TI (.ref i1) (.ref i2) ∧ (∃ a1 a2, IsTupOf2 h TO a1 a2) ∧ h.IsStrIter i1 (strIterType x) x t i ∧ h.IsStrIter i2 (strIterType y) y u i
theorem strIt_keep {h h' : Heap} {a : Addr} {ty : String} {x : Str} {t : Tok} {i : Nat} (s : h.IsStrIter a ty x t i) (k : ∀ o, h.get? a = some o → h'.get? a = some o) : h'.IsStrIter a ty x t i :=
  let ⟨o, e, c, d⟩ := s
  ⟨o, k o e, c, d⟩
theorem turn_zipS {P : Program} {w : World} {K : PySem.W.Frag} {elts : List Expr} {kk : Nat} {tpos : Pos} (x y : Str) (t u : Tok) {z TI TO i1 i2 : Addr} (S : ZipSep2 z TI TO i1 i2 [i1] [i2]) :
    Turn P w K (.Tuple elts kk tpos) (ItzS x y) [z, TI, TO, i1, i2] z (zStS z TI TO i1 i2 x y t u) where
  mem := by simp
  obj := fun i h st c hc => by
    obtain ⟨hz, hTI, ⟨a1, a2, hTO⟩, ⟨o1, e1, _, d1⟩, ⟨o2, e2, _, d2⟩⟩ := st
    have e' : c = z ∨ c = TI ∨ c = TO ∨ c = i1 ∨ c = i2 := by simpa using hc
    rcases e' with q | q | q | q | q
    · rw [q]; exact ⟨_, hz, fun v q => nomatch q⟩
    · rw [q]; exact ⟨_, hTI, fun v q => nomatch q⟩
    · rw [q]; exact ⟨_, hTO, fun v q => nomatch q⟩
    · rw [q]; exact ⟨o1, e1, fun v q => by rw [d1] at q; cases q⟩
    · rw [q]; exact ⟨o2, e2, fun v q => by rw [d2] at q; cases q⟩
  keep := fun i h h' st k => by
    obtain ⟨hz, hTI, ⟨a1, a2, hTO⟩, h1, h2⟩ := st
    exact ⟨k z (by simp) _ hz, k TI (by simp) _ hTI, ⟨a1, a2, k TO (by simp) _ hTO⟩, strIt_keep h1 fun o q => k i1 (by simp) o q, strIt_keep h2 fun o q => k i2 (by simp) o q⟩
  item := by
    intro X hP hw hK hc i pins s σ H E I hf st hg
    subst hP hw hK
    have lt : ∀ b ∈ [z, TI, TO, i1, i2], b < s.heap.objs.size := fun c hcm => by
      obtain ⟨hz, hTI, ⟨a1, a2, hTO⟩, ⟨o1, e1, _⟩, ⟨o2, e2, _⟩⟩ := st
      have e' : c = z ∨ c = TI ∨ c = TO ∨ c = i1 ∨ c = i2 := by simpa using hcm
      rcases e' with q | q | q | q | q
      · rw [q]; exact Heap.lt_size hz
      · rw [q]; exact Heap.lt_size hTI
      · rw [q]; exact Heap.lt_size hTO
      · rw [q]; exact Heap.lt_size e1
      · rw [q]; exact Heap.lt_size e2
    have Z := GoesN.zip2 (elts := elts) (x1 := kk) (pos := tpos) S (Draws.text (prog := X.prog) (w := X.w) (A := X.A.in1) (I.ok.hd hc) i1 x t) (Draws.text (prog := X.prog) (w := X.w) (A := X.A.in1) (I.ok.hd hc) i2 y u)
    have hg' : i < x.cps.size ∧ i < y.cps.size := hg
    refine Z.goes i s _ E (by omega) st fun v h' tk hY hS' hk htk => ?_
    obtain ⟨T', v1, v2, rfl, hT', ⟨c, t1, hcx, rfl⟩, ⟨d, t2, hdy, rfl⟩, hI⟩ := hY
    have new : ObjOk X.prog X.w (upd H T' (.tup [.str ⟨#[c]⟩, .str ⟨#[d]⟩])) h' T' (.tup [.str ⟨#[c]⟩, .str ⟨#[d]⟩]) :=
      ⟨by show 2 ≤ sizeLine; decide, [.str ⟨#[c]⟩ t1, .str ⟨#[d]⟩ t2], .cons ⟨_, rfl⟩ (.cons ⟨_, rfl⟩ .nil), let ⟨o, q1, q2, q3, q4⟩ := hI; ⟨o, q1, q2, q3, q4⟩⟩
    have I1 := I.turnedNew (t' := tk) (ch := [z, TI, TO, i1, i2]) (fun b o hb e => hk b o (fun z => hb (by simp at z; rcases z with q | q | q | q <;> simp [q])) e) hf hT' new
    refine ⟨.ref T', _, I1, rfl, ⟨T', c, d, rfl, I.hok.fresh hT', rfl, hcx, hdy⟩, hS', fun b hb => ?_⟩
    rw [upd_ne (Nat.ne_of_lt (Nat.lt_of_lt_of_le (lt b hb) hT'))]
    exact (hf b hb).1
  done := by
    intro X hP hw hK hc i pins s σ H E I hf st hg
    subst hP hw hK
    have Z := GoesN.zip2 (elts := elts) (x1 := kk) (pos := tpos) S (Draws.text (prog := X.prog) (w := X.w) (A := X.A.in1) (I.ok.hd hc) i1 x t) (Draws.text (prog := X.prog) (w := X.w) (A := X.A.in1) (I.ok.hd hc) i2 y u)
    have hg' : i = min x.cps.size y.cps.size := hg
    subst hg'
    exact Z.stops s _ E st fun h' tk hk htk => I.turnedL (t' := tk) (ch := [z, TI, TO, i1, i2]) (fun b o hb e => hk b o (fun z => hb (by simp at z; rcases z with q | q | q | q <;> simp [q])) e) hf
  self := fun A i s Q E st h => wpAny_pyIter_zip st.1 h
theorem walk_zipS {x y : Str} {n : Nat} (hn : n = min x.cps.size y.cps.size) : Walk (ItzS x y) n (fun _ => True) (fun i H v H' => ∃ T c d, v = .ref T ∧ H T = none ∧ H' = upd H T (.tup [.str ⟨#[c]⟩, .str ⟨#[d]⟩]) ∧ x.cps[i]? = some c ∧ y.cps[i]? = some d) :=
  ⟨fun i _ hi _ => by
    show i < x.cps.size ∧ i < y.cps.size
    omega, fun _ _ => hn, fun _ _ _ _ _ _ y => y⟩
theorem zipSep (n : Nat) : ZipSep2 (n + 4) (n + 2) (n + 3) n (n + 1) [n] [n + 1] := by
  constructor <;> simp <;> omega
def iZipS (ta : TA) : TI := fun σ H R => ta σ H fun vs H1 => ∃ x y, vs = [.str x, .str y] ∧ R (ItzS x y) H1
theorem pi_zipS {X : Cx} {e e2 : Expr} {ta : TA} {p pos tpos : Pos} {elts : List Expr} {kk : Nat} (hg : Gl X "zip") (hm : X.mg "zip" = none) (ha : PA X [e, e2] ta)
    (hs : starEach [e, e2] X.env = (false, eval e X.env) :: starEach [e2] X.env := by rfl) (hpl : (backTo pos (starEach [e2] X.env)).any (·.1) = false := by rfl) :
    PI X (.Tuple elts kk tpos) (.Call (.Name "zip" p) [e, e2] [] pos) (iZipS ta) := by
  refine ⟨fun pins s σ H R I h => ?_⟩
  refine Call_ (ld_blt I hg hm PyProof.Rows.boot_zip (PyProof.Rows.callWith_type1 (thn (ha.run pos pins s σ H _ I h) fun us s1 ⟨vs, H1, I1, r1, q1⟩ => ?_) hs hpl))
  obtain ⟨x, y, ex, q⟩ := q1
  subst ex
  cases r1 with
  | cons r rr =>
    cases rr with
    | cons r' rr =>
      cases rr
      obtain ⟨t, rfl⟩ := r
      obtain ⟨u, rfl⟩ := r'
      refine zip_begins2 (begins_text x t) (begins_text y u) trivial trivial fun h' hz hTI hTO h1 h2 hsz hk => wpAny_pyIter_zip hz ?_
      have I2 : L2.Inv X pins σ H1 { s1 with heap := h' } := I1.kept (t' := s1.toks) hk
      refine ⟨s1.heap.objs.size + 4, [s1.heap.objs.size + 4, s1.heap.objs.size + 2, s1.heap.objs.size + 3, s1.heap.objs.size, s1.heap.objs.size + 1], _, _, H1, rfl, I2, turn_zipS x y t u (zipSep s1.heap.objs.size), ⟨hz, hTI, ⟨_, _, hTO⟩, ⟨_, h1, rfl, rfl⟩, ⟨_, h2, rfl, rfl⟩⟩, fun c hcm => ?_, q⟩
      have hle : s1.heap.objs.size ≤ c := by
        have e' : c = s1.heap.objs.size + 4 ∨ c = s1.heap.objs.size + 2 ∨ c = s1.heap.objs.size + 3 ∨ c = s1.heap.objs.size ∨ c = s1.heap.objs.size + 1 := by simpa using hcm
        rcases e' with z | z | z | z | z <;> (rw [z]; first | exact Nat.le_refl _ | exact Nat.le_add_right _ _)
      exact I1.fpOk hle (I1.hok.fresh hle)
/-! ### own methods, own classes -/
structure HasM (K : PySem.W.Frag) (d : He.DefD) (f : Addr) : Prop where
  fn : ∃ fd, FunD K d.name d.qual d.params d.body d.scope [] [] f fd
def OKM (P : Program) (w : World) (K : PySem.W.Frag) (mg : Str → Option Value) (base : Heap) (k : Nat) (c m : Str) (ps : List Str) (sp : Sp) : Prop :=
  ∃ fd, FnOk P w K mg base CX0 k (He.ma K (He.ga K c) m) fd ps sp ∧ Binds K fd ps []
section
variable {w : World} {K : PySem.W.Frag} {mg : Str → Option Value}
theorem Top.hasM (T : Top w K mg) (i : Nat) {d : He.DefD} {c m : Str} (hd : fns[i]? = some d) (e : d.at_ = (c, some m)) (e0 : d.dfl = []) (e1 : d.kwd = []) : HasM K d (He.ma K (He.ga K c) m) := by
  obtain ⟨fd, F⟩ := T.says.1.d.def_ i hd
  refine ⟨⟨fd, ?_⟩⟩
  have a : He.fAd K d.at_ = He.ma K (He.ga K c) m := by rw [e]; rfl
  have b : d.dvs K = [] := by unfold He.DefD.dvs; rw [e0]; rfl
  have c : d.kws K = [] := by unfold He.DefD.kws; rw [e1]; rfl
  rw [a, b, c] at F
  exact F
theorem Top.cls (T : Top w K mg) (i : Nat) {c : Str} (h : fas[i]? = some (.cls c) := by rfl) : Cls K (He.ga K c) := He.cls_ok (T.fact i h)
theorem Top.mkr (T : Top w K mg) (i : Nat) {c : Str} (h : fas[i]? = some (.mkr c) := by rfl) : Mk K (He.ga K c) (He.ma K (He.ga K c) "__init__") := He.mkr_ok (T.fact i h)
theorem Top.meth (T : Top w K mg) (i : Nat) {c m : Str} (h : fas[i]? = some (.meth c m) := by rfl) : Meth K (He.ga K c) m (He.ma K (He.ga K c) m) := He.meth_ok (T.fact i h)
theorem Top.noat (T : Top w K mg) (i : Nat) {c m : Str} (h : fas[i]? = some (.noat c m) := by rfl) : NoAttr K (He.ga K c) m := He.noat_ok (T.fact i h)
end
section
variable {P : Program} {w : World} {K : PySem.W.Frag} {mg : Str → Option Value} {base : Heap}
theorem HasM.ok {d : He.DefD} {c m : Str} (D : HasM K d (He.ma K (He.ga K c) m)) {N ps : List Str} {k : Nat} {sp : Sp} (S : FnScope N ps d.scope)
    (b : ∀ (kV doc pm : Value) (an : Option Addr) (cdv ct : Value) (us : List Value), us.length = ps.length → bindArgs (PySem.W.fnOf d.name d.qual d.params d.body d.scope .none kV doc pm an cdv ct) ⟨us, []⟩ = pure (ps.zip us))
    (len : ∀ vs H Q E, sp vs H Q E → vs.length = ps.length)
    (body : ∀ (f : Addr) (cdv : Value) (A : Around) (outer : List Env) (s : Shared) (H : Hp) (vs : List V) (Q : VK) (E : XK), Room k (A.deeper (envOfC d.qual d.scope s.heap.objs.size f cdv)) → sp vs H Q E →
      ∃ t, PSs (cxOf CX0 P w K mg base N d.qual d.scope f cdv A outer s H E).nox d.body t ∧ t { nx := fun _ H' => Q .non H', rt := Q } (start N vs) H) : OKM P w K mg base (k + 1) c m ps sp := by
  obtain ⟨⟨fd, F⟩⟩ := D
  refine ⟨_, F.ok S len (fun cdv A outer s H vs Q E hr h => ?_), F.bindsN b⟩
  obtain ⟨t, h1, h2⟩ := body _ cdv A outer s H vs Q E hr h
  exact ⟨t, h1.nox, h2⟩
theorem OKM.mono {j k : Nat} {c m : Str} {ps : List Str} {sp : Sp} (O : OKM P w K mg base j c m ps sp) (h : j ≤ k) : OKM P w K mg base k c m ps sp :=
  let ⟨fd, F, r⟩ := O
  ⟨fd, F.mono h, r⟩
theorem OKM.imp {k : Nat} {c m : Str} {ps : List Str} {sp sp' : Sp} (O : OKM P w K mg base k c m ps sp) (h : ∀ vs H Q E, sp' vs H Q E → sp vs H Q E) : OKM P w K mg base k c m ps sp' :=
  let ⟨fd, F, r⟩ := O
  ⟨fd, F.imp h, r⟩
end
section
variable {X : Cx} {k : Nat} {c m x : Str} {ps : List Str} {sp : Sp} {p pos apos : Pos} {e o : Expr} {es : List Expr} {t : TA} {ta : TE}
theorem pe_mc {pl : Sem Bool} (O : OKM X.prog X.w X.K X.mg X.base k c m ps sp) (hc : Cls X.K (He.ga X.K c)) (hm : Meth X.K (He.ga X.K c) m (He.ma X.K (He.ga X.K c) m)) (hr : Room k X.A) (he : PE X o ta) (ha : PA X (e :: es) t)
    (hst : starEach (e :: es) X.env = (false, eval e X.env) :: starEach es X.env := by rfl) (hpl : (backTo pos (starEach es X.env)).any (·.1) = false := by rfl)
    (ht : eval (.Call (.Attribute o m apos) (e :: es) [] pos) X.env = (do
      let ov ← eval o X.env
      standAt apos.atName
      let (f, first) ← holding [ov] (getMethod ov m pl)
      callWith pos f first (backTo pos (starEach (e :: es) X.env)) (backToKw pos (keywordEach [] X.env))) := by rfl) :
    PE X (.Call (.Attribute o m apos) (e :: es) [] pos) (tMeth (He.ga X.K c) m sp [] E0 ta t) := by
  obtain ⟨fd, F, hb⟩ := O
  exact pe_meth (pl := pl) he hc hm F hr hb .nil pass0 ha hst hpl ht
theorem pe_mc0 {pl : Sem Bool} (O : OKM X.prog X.w X.K X.mg X.base k c m ps sp) (hc : Cls X.K (He.ga X.K c)) (hm : Meth X.K (He.ga X.K c) m (He.ma X.K (He.ga X.K c) m)) (hr : Room k X.A) (he : PE X o ta)
    (ht : eval (.Call (.Attribute o m apos) [] [] pos) X.env = (do
      let ov ← eval o X.env
      standAt apos.atName
      let (f, first) ← holding [ov] (getMethod ov m pl)
      callWith pos f first (backTo pos (starEach [] X.env)) (backToKw pos (keywordEach [] X.env))) := by rfl) :
    PE X (.Call (.Attribute o m apos) [] [] pos) (tMeth (He.ga X.K c) m sp [] E0 ta tNil) := by
  obtain ⟨fd, F, hb⟩ := O
  exact pe_meth0 (pl := pl) he hc hm F hr hb .nil pass0 ht
theorem pe_mk (O : OKM X.prog X.w X.K X.mg X.base k x "__init__" ps sp) (M : Mk X.K (He.ga X.K x) (He.ma X.K (He.ga X.K x) "__init__")) (hm : X.mg x = some (.ref (He.ga X.K x))) (hr : Room (k + 1) X.A) (hg : Gl X x) (ha : PA X (e :: es) t)
    (hdb : (x == ("__debug__" : Str)) = false := by decide) (he : starEach (e :: es) X.env = (false, eval e X.env) :: starEach es X.env := by rfl) (hpl : (backTo pos (starEach es X.env)).any (·.1) = false := by rfl) :
    PE X (.Call (.Name x p) (e :: es) [] pos) (tMake (He.ga X.K x) sp [] E0 t) := by
  obtain ⟨fd, F, hb⟩ := O
  exact pe_make M F hr hg hm hb .nil pass0 ha hdb he hpl
theorem pe_mk0 (O : OKM X.prog X.w X.K X.mg X.base k x "__init__" ps sp) (M : Mk X.K (He.ga X.K x) (He.ma X.K (He.ga X.K x) "__init__")) (hm : X.mg x = some (.ref (He.ga X.K x))) (hr : Room (k + 1) X.A) (hg : Gl X x)
    (hdb : (x == ("__debug__" : Str)) = false := by decide) : PE X (.Call (.Name x p) [] [] pos) (tMake (He.ga X.K x) sp [] E0 tNil) := by
  obtain ⟨fd, F, hb⟩ := O
  exact pe_make0 M F hr hg hm hb .nil pass0 hdb
end
end NP
/-! NPData -/
namespace NP
open PySem PySem.Spec PyProof.Rows L2 TL
/-! ## the data in plain Lean -/
/-! ### texts as lists of signs -/
theorem sx {x y : Str} (h : tl x = tl y) : x = y := ext_tl h
theorem s_assoc (a b c : Str) : a ++ b ++ c = a ++ (b ++ c) := sx (by simp only [tl_append, List.append_assoc])
theorem s_nil (a : Str) : Str.empty ++ a = a := sx (by rw [tl_append]; rfl)
theorem s_nil' (a : Str) : a ++ Str.empty = a := sx (by rw [tl_append]; exact List.append_nil _)
theorem s_len (a b : Str) : (a ++ b).length = a.length + b.length := by rw [len_tl, len_tl, len_tl, tl_append, List.length_append]
theorem emp_nil : ("" : Str) = Str.empty := by decide +kernel
/-! ### names -/
def pool : List Str := ["t", "a", "b2", "input_", "cells", "i", "j", "k_1", "x", "m", "main", "turn", "p", "q", "no", "abcdefghijkl", "at", "zero", "set", "ones", "size1"]
def allNames : List Str := "input" :: pool
def Nm (z : Str) : Prop := z ∈ allNames
def letters4 : List Str := ["a", "b", "z", "n"]
def Lt (z : Str) : Prop := z ∈ letters4
def Pla (z : Str) : Prop := z = "one" ∨ z = "two"
/-- the letters of a choice -/
def Lts (z : Str) : Prop := tl z ≠ [] ∧ (tl z).Pairwise (· < ·) ∧ (∀ c ∈ tl z, 97 ≤ c ∧ c ≤ 122) ∧ (tl z).length ≤ 26
theorem abc_mem {c : Nat} (h : 97 ≤ c) (h2 : c ≤ 122) : c ∈ tl "abcdefghijklmnopqrstuvwxyz" :=
  (by decide +kernel : ∀ c, c < 123 → 97 ≤ c → c ∈ tl "abcdefghijklmnopqrstuvwxyz") c (by omega) h
theorem inV_strs (z : Str) (ws : List Str) : inV (.str z) (ws.map V.str) = decide (z ∈ ws) := by
  unfold inV
  rw [List.any_map, Bool.eq_iff_iff]
  simp only [List.any_eq_true, Function.comp, decide_eq_true_eq]
  constructor
  · rintro ⟨y, hy, e⟩
    have e1 : y = z := beq_iff_eq.mp (show (y == z) = true from e)
    rwa [← e1]
  · exact fun h => ⟨z, h, show (z == z) = true from beq_self_eq_true z⟩
theorem flat_strs (ws : List Str) : (ws.map V.str).all flatV = true := by
  rw [List.all_map]
  exact List.all_eq_true.mpr fun _ _ => rfl
/-! ### slices -/
theorem cutV_from (xs : List V) (k : Nat) : cutV xs (some (k : Int)) none = xs.drop k := by
  unfold cutV
  rw [HT.sIx_nat, HT.sIx_none]
  by_cases h : k ≤ xs.length
  · rw [Nat.min_eq_left h]
    exact List.take_of_length_le (by rw [List.length_drop]; omega)
  · rw [Nat.min_eq_right (by omega), Nat.sub_self, List.take_zero, List.drop_eq_nil_of_le (by omega)]
theorem cutV_one (xs : List V) : cutV xs (some 1) none = xs.drop 1 := cutV_from xs 1
theorem cutV_to (xs : List V) (k : Nat) : cutV xs none (some (k : Int)) = xs.take k := by
  unfold cutV
  rw [HT.sIx_nat, HT.sIx_none, List.drop_zero, Nat.sub_zero]
  by_cases h : k ≤ xs.length
  · rw [Nat.min_eq_left h]
  · rw [Nat.min_eq_right (by omega), List.take_length, List.take_of_length_le (by omega)]
theorem cutV_win (xs : List V) (k m : Nat) (h : k ≤ m) : cutV xs (some (k : Int)) (some (m : Int)) = (xs.take m).drop k := by
  unfold cutV
  rw [HT.sIx_nat, HT.sIx_nat, ← List.drop_take]
  by_cases h1 : m ≤ xs.length
  · rw [Nat.min_eq_left h1, Nat.min_eq_left (by omega)]
  · rw [Nat.min_eq_right (show xs.length ≤ m by omega), List.take_length, List.take_of_length_le (show xs.length ≤ m by omega)]
    by_cases h2 : k ≤ xs.length
    · rw [Nat.min_eq_left h2]
    · rw [Nat.min_eq_right (show xs.length ≤ k by omega), List.drop_length, List.drop_eq_nil_of_le (by omega)]
theorem tl_cut_from (z : Str) (k : Nat) : tl (cutS z (some (k : Int)) none) = (tl z).drop k := by
  have e : tl (cutS z (some (k : Int)) none) = ((tl z).drop (HT.sIx z.length 0 (some (k : Int)))).take (HT.sIx z.length z.length none - HT.sIx z.length 0 (some (k : Int))) := tl_mk _
  rw [e, HT.sIx_nat, HT.sIx_none, len_tl]
  by_cases h : k ≤ (tl z).length
  · rw [Nat.min_eq_left h]
    exact List.take_of_length_le (by rw [List.length_drop]; omega)
  · rw [Nat.min_eq_right (by omega), Nat.sub_self, List.take_zero, List.drop_eq_nil_of_le (by omega)]
theorem tl_cut_one (z : Str) : tl (cutS z (some 1) none) = (tl z).drop 1 := tl_cut_from z 1
theorem tl_cut_last (z : Str) (h : tl z ≠ []) : tl (cutS z none (some (-1))) = (tl z).dropLast := by
  have e : tl (cutS z none (some (-1))) = ((tl z).drop (HT.sIx z.length 0 none)).take (HT.sIx z.length z.length (some (-1)) - HT.sIx z.length 0 none) := tl_mk _
  have l : 0 < (tl z).length := List.length_pos_iff.mpr h
  have e2 : HT.sIx z.length z.length (some (-1)) = (tl z).length - 1 := by
    show (if (-1 : Int) < 0 then ((-1 : Int) + (z.length : Int)).toNat else min (-1 : Int).toNat z.length) = _
    rw [if_pos (by decide), len_tl]
    omega
  rw [e, HT.sIx_none, e2, List.drop_zero, Nat.sub_zero, List.dropLast_eq_take]
/-! ### polynomials -/
abbrev Poly := List (Nat × Nat)
def PolyOk (p : Poly) : Prop := p.Pairwise (fun a b => a.1 < b.1) ∧ ∀ q ∈ p, q.1 ≤ 3 ∧ 1 ≤ q.2 ∧ q.2 ≤ 1000000000000
def encQ (q : Nat × Nat) : PyData := .tuple [.int q.1, .int q.2]
def encP (p : Poly) : PyData := .tuple (p.map encQ)
def num (n : Nat) : Str := toString ((n : Nat) : Int)
def textPair (q : Nat × Nat) : Str :=
  if q.1 = 0 then num q.2 else (if q.2 = 1 then ("" : Str) else num q.2 ++ ("*" : Str)) ++ "n" ++ (if q.1 = 1 then ("" : Str) else ("^" : Str) ++ num q.1)
def textPoly (p : Poly) : Str := if p = [] then "0" else Str.join " + " (p.reverse.map textPair)
/-! ### tests, commands, programs -/
inductive Pl where
  | is (a i x : Str) | equal (a i b j : Str) | empty (a i : Str) | inside (a i : Str) | at (i j : Str)
def Pl.ws : Pl → List Str
  | .is a i x => ["is", a, i, x]
  | .equal a i b j => ["equal", a, i, b, j]
  | .empty a i => ["empty", a, i]
  | .inside a i => ["inside", a, i]
  | .at i j => ["at", i, j]
inductive Tst where
  | pl (p : Pl) | no (t : Tst)
inductive Si where
  | set (a i x : Str) | copy (a i b j : Str) | clear (a i : Str) | zero (i : Str) | up (i : Str) | down (i : Str) | same (i j : Str) | go (p : Str) | choose (pl a i ls : Str) | wins (pl : Str)
def Si.ws : Si → List Str
  | .set a i x => ["set", a, i, x]
  | .copy a i b j => ["copy", a, i, b, j]
  | .clear a i => ["clear", a, i]
  | .zero i => ["zero", i]
  | .up i => ["up", i]
  | .down i => ["down", i]
  | .same i j => ["same", i, j]
  | .go p => ["do", p]
  | .choose pl a i ls => ["choose", pl, a, i, ls]
  | .wins pl => ["wins", pl]
inductive Cmd where
  | si (s : Si) | re (p : Poly) (cs : List Cmd) | if_ (t : Tst) (cs os : List Cmd)
structure Scr where
  tapes : List (Str × Poly)
  idx : List (Str × Poly)
  procs : List (Str × List Cmd)
def encWs (ws : List Str) : PyData := .tuple (ws.map .str)
def Tst.enc : Tst → PyData
  | .pl p => encWs p.ws
  | .no t => .tuple [.str "not", t.enc]
mutual
def Cmd.enc : Cmd → PyData
  | .si s => encWs s.ws
  | .re p cs => .tuple [.str "repeat", encP p, .tuple (encs cs)]
  | .if_ t cs os => .tuple [.str "if", t.enc, .tuple (encs cs), .tuple (encs os)]
def encs : List Cmd → List PyData
  | [] => []
  | c :: cs => c.enc :: encs cs
end
theorem encs_map : ∀ cs : List Cmd, encs cs = cs.map Cmd.enc
  | [] => rfl
  | c :: cs => by rw [encs, encs_map cs]; rfl
theorem encs_app (a b : List Cmd) : encs (a ++ b) = encs a ++ encs b := by rw [encs_map, encs_map, encs_map, List.map_append]
def encH (h : Str × Poly) : PyData := .tuple [.str h.1, encP h.2]
def encR (h : Str × List Cmd) : PyData := .tuple [.str h.1, .tuple (encs h.2)]
def Scr.enc (s : Scr) : PyData := .tuple [.tuple (s.tapes.map encH), .tuple (s.idx.map encH), .tuple (s.procs.map encR)]
-- how many commands, those within others too
mutual
def Cmd.cnt : Cmd → Nat
  | .si _ => 1
  | .re _ cs => 1 + cnts cs
  | .if_ _ cs os => 1 + cnts cs + cnts os
def cnts : List Cmd → Nat
  | [] => 0
  | c :: cs => c.cnt + cnts cs
end
def Tst.nots : Tst → Nat
  | .pl _ => 0
  | .no t => t.nots + 1
def Tst.base : Tst → Pl
  | .pl p => p
  | .no t => t.base
/-! ### what is sound -/
/-- with the names that are there: tapes to read, own tapes, indexes, earlier procedures -/
def Pl.ok (ts is : List Str) : Pl → Prop
  | .is a i x => a ∈ ts ∧ i ∈ is ∧ Lt x
  | .equal a i b j => a ∈ ts ∧ i ∈ is ∧ b ∈ ts ∧ j ∈ is
  | .empty a i => a ∈ ts ∧ i ∈ is
  | .inside a i => a ∈ ts ∧ i ∈ is
  | .at i j => i ∈ is ∧ j ∈ is
def Tst.ok (ts is : List Str) (t : Tst) : Prop := t.base.ok ts is ∧ t.nots ≤ 3
def Si.ok (ts own is ps : List Str) : Si → Prop
  | .set a i x => a ∈ own ∧ i ∈ is ∧ Lt x
  | .copy a i b j => a ∈ own ∧ i ∈ is ∧ b ∈ ts ∧ j ∈ is
  | .clear a i => a ∈ own ∧ i ∈ is
  | .zero i => i ∈ is
  | .up i => i ∈ is
  | .down i => i ∈ is
  | .same i j => i ∈ is ∧ j ∈ is
  | .go p => p ∈ ps
  | .choose pl a i ls => Pla pl ∧ a ∈ own ∧ i ∈ is ∧ Lts ls
  | .wins pl => Pla pl
mutual
def Cmd.ok (ts own is ps : List Str) : Cmd → Prop
  | .si s => s.ok ts own is ps
  | .re p cs => PolyOk p ∧ oks ts own is ps cs
  | .if_ t cs os => t.ok ts is ∧ oks ts own is ps cs ∧ oks ts own is ps os
def oks (ts own is ps : List Str) : List Cmd → Prop
  | [] => True
  | c :: cs => c.ok ts own is ps ∧ oks ts own is ps cs
end
theorem oks_all {ts own is ps : List Str} : ∀ {cs : List Cmd}, oks ts own is ps cs ↔ ∀ c ∈ cs, c.ok ts own is ps
  | [] => ⟨fun _ => (by intro d h; cases h), fun _ => trivial⟩
  | c :: cs => by
    rw [oks, oks_all (cs := cs)]
    exact ⟨fun h d hd => (List.mem_cons.mp hd).elim (fun e => e ▸ h.1) (h.2 d), fun h => ⟨h c (List.mem_cons_self ..), fun d hd => h d (List.mem_cons_of_mem _ hd)⟩⟩
theorem oks_app {ts own is ps : List Str} {a b : List Cmd} : oks ts own is ps (a ++ b) ↔ oks ts own is ps a ∧ oks ts own is ps b := by
  rw [oks_all, oks_all, oks_all]
  exact ⟨fun h => ⟨fun c m => h c (List.mem_append_left _ m), fun c m => h c (List.mem_append_right _ m)⟩, fun h c m => (List.mem_append.mp m).elim (h.1 c) (h.2 c)⟩
/-- procedures, each with the names ahead of it -/
def procsOk (ts own is : List Str) : List Str → List (Str × List Cmd) → Prop
  | _, [] => True
  | ps, (n, cs) :: r => n ∈ pool ∧ n ∉ ps ∧ oks ts own is ps cs ∧ procsOk ts own is (ps ++ [n]) r
def pcnt : List (Str × List Cmd) → Nat
  | [] => 0
  | (_, cs) :: r => cnts cs + pcnt r
structure Scr.ok (s : Scr) : Prop where
  tn : (s.tapes.map (·.1)).Nodup
  tp : ∀ h ∈ s.tapes, h.1 ∈ pool ∧ PolyOk h.2
  inn : (s.idx.map (·.1)).Nodup
  ip : ∀ h ∈ s.idx, h.1 ∈ pool ∧ PolyOk h.2
  pr : procsOk ("input" :: s.tapes.map (·.1)) (s.tapes.map (·.1)) (s.idx.map (·.1)) [] s.procs
  tl : s.tapes.length ≤ 3
  il : s.idx.length ≤ 3
  pl : s.procs.length ≤ 3
  cl : pcnt s.procs ≤ 16
end NP
/-! NPSimp -/
namespace NP
open PySem PySem.Spec PyProof.Rows L2 TL
/-! ## the same rules, for tracked lists and tuples alone, their readings told shorter -/
section
variable {X : Cx}
theorem atI_at {α : Type} {xs : List α} {j : Nat} {v : α} {i : Int} (e : i = (j : Int)) (h : xs[j]? = some v) : atI xs i = some v := by rw [e]; exact atI_nat h
def rXT : R2 := fun x y H Q => ∃ p xs, ∃ j : Nat, ∃ v, x = .ref p ∧ y = .int (j : Int) ∧ H p = some (.tup xs) ∧ xs[j]? = some v ∧ Q v H
theorem ixT : IxR X rXT := fun value slice pins s σ H x y v u Q I rx ry h hs =>
  let ⟨p, xs, j, z, e1, e2, hp, hj, q⟩ := h
  ix_tup value slice pins s σ H x y v u Q I rx ry ⟨p, xs, _, z, e1, e2, .of hp, atI_nat hj, q⟩ hs
def rXL : R2 := fun x y H Q => ∃ p xs, ∃ j : Nat, ∃ v, x = .ref p ∧ y = .int (j : Int) ∧ H p = some (.lst xs) ∧ xs[j]? = some v ∧ Q v H
theorem ixL : IxR X rXL := fun value slice pins s σ H x y v u Q I rx ry h hs =>
  let ⟨p, xs, j, z, e1, e2, hp, hj, q⟩ := h
  ix_list value slice pins s σ H x y v u Q I rx ry ⟨p, xs, _, z, e1, e2, .of hp, atI_nat hj, q⟩ hs
def rXLast : R2 := fun x y H Q => ∃ p xs z, x = .ref p ∧ y = .int (-1) ∧ H p = some (.lst (xs ++ [z])) ∧ Q z H
theorem ixLast : IxR X rXLast := fun value slice pins s σ H x y v u Q I rx ry h hs =>
  let ⟨p, xs, z, e1, e2, hp, q⟩ := h
  ix_list value slice pins s σ H x y v u Q I rx ry ⟨p, xs ++ [z], _, z, e1, e2, .of hp, by
    unfold atI ixN
    rw [if_neg (by decide), List.length_append, List.length_singleton]
    rw [if_pos (by omega)]
    show (xs ++ [z])[((((xs.length + 1 : Nat) : Int)) + -1).toNat]? = some z
    rw [show ((((xs.length + 1 : Nat) : Int)) + -1).toNat = xs.length by omega]
    simp, q⟩ hs
def rXS : R2 := fun x y H Q => ∃ z, ∃ j : Nat, ∃ c, x = .str z ∧ y = .int (j : Int) ∧ z.length ≤ sizeLine ∧ (tl z)[j]? = some c ∧ Q (.str ⟨#[c]⟩) H
theorem ixS : IxR X rXS := fun value slice pins s σ H x y v u Q I rx ry h hs =>
  let ⟨z, j, c, e1, e2, hz, hj, q⟩ := h
  ix_str value slice pins s σ H x y v u Q I rx ry ⟨z, _, c, e1, e2, hz, atI_nat hj, q⟩ hs
def rCT : R2 := fun x y H Q => ∃ a b xs ys, x = .ref a ∧ y = .ref b ∧ H a = some (.tup xs) ∧ H b = some (.tup ys) ∧ xs.length + ys.length ≤ sizeLine ∧ ∀ p H', Same H H' → H' p = some (.tup (xs ++ ys)) → Q (.ref p) H'
theorem catT : OpR X (binaryOp .Add) rCT := fun pins s σ H x y v u Q I rx ry h =>
  let ⟨a, b, xs, ys, e1, e2, ha, hb, hz, q⟩ := h
  op_catA pins s σ H x y v u Q I rx ry ⟨a, b, xs, ys, e1, e2, .of ha, .of hb, hz, fun e => q b H (Same.refl _) (by rw [e]; exact hb), fun _ e => q a H (Same.refl _) (by rw [e, List.append_nil]; exact ha), fun _ _ p hp => q p _ (same_upd hp) upd_same⟩
def rST : V → Option Int → Option Int → Hp → VK → Prop := fun x lo hi H Q => ∃ a xs, x = .ref a ∧ H a = some (.tup xs) ∧ ∀ p H', Same H H' → H' p = some (.tup (cutV xs lo hi)) → Q (.ref p) H'
theorem slT : SlR X rST := fun pins s σ H x v vl vu lo hi sl Q I rx hs pl pu h =>
  let ⟨a, xs, e1, ha, q⟩ := h
  sl_tupA pins s σ H x v vl vu lo hi sl Q I rx hs pl pu ⟨a, xs, e1, .of ha, fun e => q a H (Same.refl _) (by
    unfold cutV
    rw [e.1, e.2, List.drop_zero, Nat.sub_zero, List.take_length]
    exact ha), fun _ p hp => q p _ (same_upd hp) upd_same⟩
def rNIL (neg : Bool) : R2 := fun x y H Q => ∃ (z : Str) (p : Addr) (zs : List Str), x = .str z ∧ y = .ref p ∧ H p = some (.lst (zs.map V.str)) ∧ Q (.bl (if neg then !decide (z ∈ zs) else decide (z ∈ zs))) H
theorem inLs : OpR X (compareOp .In) (rNIL false) := fun pins s σ H x y v u Q I rx ry h =>
  let ⟨z, p, zs, e1, e2, hp, q⟩ := h
  op_in_seq pins s σ H x y v u Q I rx ry ⟨p, zs.map V.str, e2, .inl (.of hp), by rw [e1]; rfl, flat_strs zs, by rw [e1, inV_strs]; exact q⟩
theorem notInLs : OpR X (compareOp .NotIn) (rNIL true) := fun pins s σ H x y v u Q I rx ry h =>
  let ⟨z, p, zs, e1, e2, hp, q⟩ := h
  op_notIn_seq pins s σ H x y v u Q I rx ry ⟨p, zs.map V.str, e2, .inl (.of hp), by rw [e1]; rfl, flat_strs zs, by rw [e1, inV_strs]; exact q⟩
def rLT : List V → Hp → VK → Prop := fun vs H Q => ∃ p xs, vs = [.ref p] ∧ (H p = some (.tup xs) ∨ H p = some (.lst xs)) ∧ Q (.int (xs.length : Nat)) H
theorem lenA : CallR X (.builtin "len") rLT := fun pins s σ H xs us Q I r h =>
  let ⟨p, ys, e, hp, q⟩ := h
  call_len_seq pins s σ H xs us Q I r ⟨p, ys, e, hp.elim (fun z => .inr (.of z)) (fun z => .inl (.of z)), q⟩
def rTL : List V → Hp → VK → Prop := fun vs H Q => ∃ p xs, vs = [.ref p] ∧ H p = some (.lst xs) ∧ ∀ l, H l = none → Q (.ref l) (upd H l (.tup xs))
theorem tupL : CallR X (.type "tuple") rTL := fun pins s σ H xs us Q I r h =>
  let ⟨p, ys, e, hp, q⟩ := h
  call_tuple_of pins s σ H xs us Q I r ⟨p, ys, e, .inl ⟨.of hp, q⟩⟩
def rLsT : List V → Hp → VK → Prop := fun vs H Q => ∃ p xs, vs = [.ref p] ∧ (H p = some (.tup xs) ∨ H p = some (.lst xs)) ∧ ∀ l, H l = none → Q (.ref l) (upd H l (.lst xs))
theorem lstA : CallR X (.type "list") rLsT := fun pins s σ H xs us Q I r h =>
  let ⟨p, ys, e, hp, q⟩ := h
  call_list_of pins s σ H xs us Q I r ⟨p, ys, e, hp.elim (fun z => .inr (.of z)) (fun z => .inl (.of z)), q⟩
/-- isinstance(x, T), x being of T itself -/
def rIs : List V → Hp → VK → Prop := RZ.rIsTy
theorem isSame : CallR X (.builtin "isinstance") rIs := RZ.call_isTy
theorem is_tup {H : Hp} {a : Addr} {xs : List V} (h : H a = some (.tup xs)) : RZ.Ty4 H (.ref a) "tuple" := .tup h
end
/-! ### tests whose outcome is known -/
theorem iteDt {p : Prop} [Decidable p] {A B : Prop} (hp : p) (h : A) : if decide p = true then A else B := by rw [decide_eq_true hp]; exact h
theorem iteDf {p : Prop} [Decidable p] {A B : Prop} (hp : ¬ p) (h : B) : if decide p = true then A else B := by rw [decide_eq_false hp]; exact h
theorem iteNt {p : Prop} [Decidable p] {A B : Prop} (hp : ¬ p) (h : A) : if (!decide p) = true then A else B := by rw [decide_eq_false hp]; exact h
theorem iteNf {p : Prop} [Decidable p] {A B : Prop} (hp : p) (h : B) : if (!decide p) = true then A else B := by rw [decide_eq_true hp]; exact h
theorem kDt {p : Prop} [Decidable p] {C : V → Hp → Prop} {H : Hp} (hp : p) (h : C (.bl true) H) : C (.bl (decide p)) H := by rw [decide_eq_true hp]; exact h
theorem kDf {p : Prop} [Decidable p] {C : V → Hp → Prop} {H : Hp} (hp : ¬ p) (h : C (.bl false) H) : C (.bl (decide p)) H := by rw [decide_eq_false hp]; exact h
theorem vi_ne {i j : Int} (h : i ≠ j) : V.int i ≠ V.int j := fun e => h (V.int.inj e)
theorem vs_ne {i j : Str} (h : i ≠ j) : V.str i ≠ V.str j := fun e => h (V.str.inj e)
end NP
/-! NPRulesG -/
namespace HT
open PySem PySem.Calls PyProof.Rows
section
variable {prog : Program} {w : World} {A : Around} {E : Value → Shared → Prop} {s : Shared}
theorem adjust_rev (n : Nat) : Builtin.Slice.sliceAdjust none none (-1) (n : Int) = ((n : Int) - 1, -1) := by
  unfold Builtin.Slice.sliceAdjust
  simp
theorem places_rev (n : Nat) : Builtin.Slice.slicePlaces ((n : Int) - 1) (-1) (-1) = n := by
  unfold Builtin.Slice.slicePlaces
  have h1 : ¬ ((-1 : Int) > 0) := by omega
  simp only [h1, if_false, Int.neg_neg, Int.ediv_one]
  split <;> omega
theorem sliceApplied_rev {sl : Addr} {n : Nat} {t : Tok} {Q : Int × Int × Nat → Shared → Prop} (hs : s.heap.IsSliceOf sl .none .none (.int (-1) t)) (h : Q ((n : Int) - 1, -1, n) s) :
    wpAny (model prog w) A (Builtin.Slice.sliceApplied (.ref sl) (pure (n : Int))) Q E s := by
  obtain ⟨os, hos, hcs, hds⟩ := id hs
  unfold Builtin.Slice.sliceApplied Builtin.Slice.sliceFields
  refine wpAny_bind (wpAny_bind (wpAny_field hos hds (x := .none) rfl (wpAny_bind (wpAny_field hos hds (x := .none) rfl (wpAny_bind (wpAny_field hos hds (x := .int (-1) t) rfl (wpAny_pure ?_)))))))
  refine wpAny_bind (slicePart_int ?_)
  show wpAny _ _ (if ((-1 : Int) == 0) = true then _ else _) _ _ s
  rw [if_neg (by decide)]
  refine wpAny_bind (slicePart_none (wpAny_bind (slicePart_none (wpAny_bind (wpAny_pure ?_)))))
  show wpAny _ _ (match Builtin.Slice.sliceAdjust none none (-1) (n : Int) with | (lo, hi) => pure (lo, (-1 : Int), Builtin.Slice.slicePlaces lo hi (-1))) _ _ s
  rw [adjust_rev]
  show wpAny _ _ (pure ((n : Int) - 1, (-1 : Int), Builtin.Slice.slicePlaces ((n : Int) - 1) (-1) (-1))) _ _ s
  rw [places_rev]
  exact wpAny_pure h
theorem pick_rev (xs : Array Value) : ((List.range xs.size).filterMap fun (k : Nat) => xs[((xs.size : Int) - 1 + (k : Int) * (-1)).toNat]?).toArray = xs.toList.reverse.toArray := by
  congr 1
  have e : ∀ n, n ≤ xs.size → ((List.range n).filterMap fun (k : Nat) => xs[((xs.size : Int) - 1 + (k : Int) * (-1)).toNat]?) = xs.toList.reverse.take n := by
    intro n
    induction n with
    | zero => intro _; simp
    | succ n ih =>
      intro h
      have hj : xs.size - 1 - n < xs.size := by omega
      have e1 : ((xs.size : Int) - 1 + (n : Int) * (-1)).toNat = xs.size - 1 - n := by omega
      rw [List.range_succ, List.filterMap_append, ih (by omega)]
      have e2 : xs[((xs.size : Int) - 1 + (n : Int) * (-1)).toNat]? = some xs[xs.size - 1 - n] := by rw [e1]; exact Array.getElem?_eq_getElem hj
      have e3 : xs.toList.reverse[n]? = some xs[xs.size - 1 - n] := by
        rw [List.getElem?_reverse (by simpa using (by omega : n < xs.size))]
        simp only [Array.length_toList]
        rw [Array.getElem?_toList, Array.getElem?_eq_getElem hj]
      rw [List.filterMap_cons, e2, List.filterMap_nil, List.take_add_one, e3]
      rfl
  rw [e xs.size (Nat.le_refl _), List.take_of_length_le (by simp)]
theorem getItem_tuple_rev {t sl : Addr} {items : Array Value} {tk : Tok} {Q : Value → Shared → Prop} (ht : IsTup s.heap t items) (hs : s.heap.IsSliceOf sl .none .none (.int (-1) tk))
    (h : Q (.ref s.heap.objs.size) { s with heap := s.heap.push { cls := .type "tuple", data := .seq items.toList.reverse.toArray } })
    (hsz : items.size ≤ sizeLine) : wpAny (model prog w) A (getItem (.ref t) (.ref sl)) Q E s := by
  have htake : sizeOk (.seq items.toList.reverse.toArray) := by
    show items.toList.reverse.toArray.size ≤ sizeLine
    rw [List.size_toArray, List.length_reverse, Array.length_toList]
    omega
  obtain ⟨os, hos, hcs, hds⟩ := id hs
  have hTs : s.TypeIs (.ref sl) "slice" := ⟨os, hos, hcs⟩
  unfold getItem
  try with_reducible refine wpAny_holding ?_
  first | refine wpAny_bind (wpAny_pure ?_) | skip
  refine wpAny_bind (wpAny_sequenceKey ht.typeIs (by decide) ?_)
  refine wpAny_bind (wpAny_callSpecial?_slot (name := Str.ofString "__getitem__") ht.typeIs PyProof.Rows.slot_tuple_getitem
    (wpAny_call_entry PyProof.Rows.slot_tuple_getitem ht.typeIs entry_tuple_getitem ?_ (args_tuple_getitem _ _)))
  show wpAny _ _ (Builtin.Tuple.tupleItemsOf (.ref t) >>= _) _ _ s
  refine wpAny_bind (tupleItemsOf_ ht ?_)
  refine wpAny_bind (wpAny_typeOf hTs ?_)
  rw [if_pos (by decide)]
  refine wpAny_bind (sliceApplied_rev hs ?_)
  show wpAny _ _ (if (((items.size : Int) - 1) == 0 && (-1 : Int) == 1 && items.size == items.size) = true then _ else _) _ _ s
  rw [if_neg (by rw [show ((-1 : Int) == 1) = false by decide, Bool.and_false, Bool.false_and]; decide), pick_rev]
  first
    | exact wpAny_bind (m := Builtin.Tuple.tupleExact _) (wpAny_newObj_type (wpAny_pure ⟨_, rfl, wpAny_pure h⟩) htake)
    | exact wpAny_bind (m := Builtin.Tuple.tupleExact _) (wpAny_newObj_type (wpAny_bind (wpAny_pure (wpAny_pure ⟨_, rfl, wpAny_pure h⟩))) htake)
    | exact wpAny_bind (wpAny_bind (m := Builtin.Tuple.tupleExact _) (wpAny_newObj_type (wpAny_pure (wpAny_pure ⟨_, rfl, wpAny_pure h⟩)) htake))
    | exact wpAny_bind (wpAny_bind (m := Builtin.Tuple.tupleExact _) (wpAny_newObj_type (wpAny_pure ⟨_, rfl, wpAny_pure h⟩) htake))
end
end HT
namespace NP
open PySem PySem.Spec PyProof.Rows L2 TL
section
variable {X : Cx}
def tRevT (te : TE) : TE := fun σ H Q => te σ H fun x H1 => ∃ (a : Addr) (xs : List V), x = .ref a ∧ H1 a = some (.tup xs) ∧ ∀ p, H1 p = none → Q (.ref p) (upd H1 p (.tup xs.reverse))
theorem pe_revT {e : Expr} {te : TE} {k : Nat} {p1 p2 p3 pos : Pos} (he : PE X e te) : PE X (.Subscript e (.Slice none none (some (.UnaryOp .USub (.Constant (.int 1) k p1) p2)) p3) pos) (tRevT te) := by
  refine ⟨fun pins s σ H Q I h => ?_⟩
  refine Subscript_ (thn (he.run pins s σ H _ I h) fun v s1 ⟨x, H1, I1, r1, q1⟩ => ?_)
  obtain ⟨a, xs, ex, hx, q⟩ := q1
  subst ex
  cases r1
  have hst : PO X (some (.UnaryOp .USub (.Constant (.int 1) k p1) p2)) (tPart (tUn (rU fun i => .int (-i)) (tC (.int 1)))) := po_some (pe_un un_neg pe_int)
  refine wpAny_Slice (thn (po_none.run pins s1 σ H1 (fun o H2 => o = none ∧ H2 = H1) I1 ⟨rfl, rfl⟩) fun vl s2 ⟨l, H2, I2, pl, el, e2⟩ => ?_)
  subst el e2
  refine thn (po_none.run pins s2 σ H2 (fun o H3 => o = none ∧ H3 = H2) I2 ⟨rfl, rfl⟩) fun vu s3 ⟨u, H3, I3, pu, eu, e3⟩ => ?_
  subst eu e3
  refine thn (hst.run pins s3 σ H3 (fun o H4 => o = some (-1) ∧ H4 = H3) I3 ⟨1, rfl, -1, rfl, rfl, rfl⟩) fun vs s4 ⟨o, H4, I4, ps, eo, e4⟩ => ?_
  subst eo e4
  have I5 : L2.Inv X pins σ H4 { s4 with heap := s4.heap.push { cls := .type "slice", data := .fields #[vl, vu, vs] } } := I4.kept (t' := s4.toks) fun b ob q => Heap.get?_push_of_some _ q
  obtain ⟨its, r, ht, hz⟩ := I5.tuple (SqT.of hx)
  have hlen := r.length
  cases pl
  cases pu
  obtain ⟨tk, rfl⟩ : ∃ tk, vs = Value.int (-1) tk := by
    cases ps with
    | int i t => exact ⟨t, rfl⟩
  show wpAny (model X.prog X.w) X.A (subscriptTail e (.Slice none none (some (.UnaryOp .USub (.Constant (.int 1) k p1) p2)) p3) (.ref a) (.ref s4.heap.objs.size)) (EP X pins σ Q) X.xe { s4 with heap := s4.heap.push { cls := .type "slice", data := .fields #[.none, .none, .int (-1) tk] } }
  refine tail_any (ops := [.ref a, .ref s4.heap.objs.size]) ht.typeIs (PyProof.Rows.slot_tuple_getitem.lookup) ?_ (by with_unfolding_all rfl)
  refine HT.getItem_tuple_rev ht (Heap.IsSliceOf.new _ .none .none (.int (-1) tk)) ?_ (by rw [List.size_toArray]; omega)
  refine ⟨.ref _, _, I5.laid (t' := s4.toks) (o := .tup xs.reverse) (fun b ob q => Heap.get?_push_of_some _ q) (Nat.le_refl _) ?_, rfl, q _ (I5.hok.fresh (Nat.le_refl _))⟩
  exact ⟨by rw [List.length_reverse]; exact hz, _, r.reverse, IsTup.new _ _⟩
end
end NP
/-! NPText -/
namespace NP
open PySem PySem.Spec PyProof.Rows L2 TL
/-! ## f-strings whose parts are short -/
def catL (ys : List Str) : Str := ys.foldl (· ++ ·) Str.empty
def catS : List Str → Str
  | [] => Str.empty
  | [a] => a
  | a :: b :: r => a ++ catS (b :: r)
theorem catL_app (ys : List Str) (y : Str) : catL (ys ++ [y]) = catL ys ++ y := by
  unfold catL
  rw [List.foldl_append]
  rfl
theorem foldl_cat : ∀ (ys : List Str) (a : Str), ys.foldl (· ++ ·) a = a ++ ys.foldl (· ++ ·) Str.empty
  | [], a => (s_nil' a).symm
  | y :: ys, a => by
    rw [List.foldl_cons, foldl_cat ys (a ++ y), List.foldl_cons, foldl_cat ys (Str.empty ++ y), s_nil, s_assoc]
theorem catL_catS : ∀ ys : List Str, catL ys = catS ys
  | [] => rfl
  | [a] => by
    show Str.empty ++ a = a
    exact s_nil a
  | a :: b :: r => by
    show (a :: b :: r).foldl (· ++ ·) Str.empty = a ++ catS (b :: r)
    rw [List.foldl_cons, foldl_cat, s_nil, ← catL_catS (b :: r)]
    rfl
theorem catL_len : ∀ (ys : List Str), (∀ y ∈ ys, y.length ≤ 1000000) → (catL ys).length ≤ ys.length * 1000000 := by
  intro ys h
  rw [catL_catS]
  induction ys with
  | nil => exact Nat.zero_le _
  | cons a r ih =>
    cases r with
    | nil =>
      rw [List.length_singleton, Nat.one_mul]
      exact h a (List.mem_cons_self ..)
    | cons b r =>
      show (a ++ catS (b :: r)).length ≤ _
      rw [s_len]
      have h1 := h a (List.mem_cons_self ..)
      have h2 := ih fun y hy => h y (List.mem_cons_of_mem _ hy)
      rw [List.length_cons] at h2
      rw [List.length_cons, List.length_cons]
      omega
section
variable {X : Cx}
def tJb : List TE → List Str → L2.St → Hp → (List Str → Hp → Prop) → Prop
  | [], acc, _, H, Q => Q acc H
  | t :: ts, acc, σ, H, Q => t σ H fun x H1 => ∃ y : Str, x = .str y ∧ y.length ≤ 1000000 ∧ tJb ts (acc ++ [y]) σ H1 Q
theorem pjb_run {pins : List (Addr × Obj)} {σ : L2.St} {es : List Expr} {ts : List TE} (h : PJ X es ts) : ∀ (acc : List Str) (s : Shared) (H : Hp) (Q : List Str → Hp → Prop) (R : Str → Shared → Prop), acc.length + ts.length ≤ 16 → (∀ y ∈ acc, y.length ≤ 1000000) → L2.Inv X pins σ H s → tJb ts acc σ H Q →
    (∀ out s1 H1, (catL out).length ≤ sizeLine → L2.Inv X pins σ H1 s1 → Q out H1 → R (catL out) s1) → Joins (model X.prog X.w) X.A X.xe (evalEach es X.env) (catL acc) R s := by
  have big : 16 * 1000000 ≤ sizeLine := by decide
  induction h with
  | nil =>
    intro acc s H Q R hz hs I q k
    have e0 : evalEach [] X.env = [] := by first | rfl | simp [evalEach]
    rw [e0]
    refine k acc s H ?_ I q
    have h1 := catL_len acc hs
    have h2 : acc.length ≤ 16 := by simpa using hz
    have h3 : acc.length * 1000000 ≤ 16 * 1000000 := Nat.mul_le_mul_right _ h2
    omega
  | @cons e t es ts he r ih =>
    intro acc s H Q R hz hs I q k
    have e0 : evalEach (e :: es) X.env = eval e X.env :: evalEach es X.env := by first | rfl | simp [evalEach]
    rw [e0]
    refine thn (he.run pins s σ H _ I q) fun v s1 hv => ?_
    obtain ⟨x, H1, I1, r1, y, rfl, hy, q1⟩ := hv
    obtain ⟨tk, rfl⟩ := r1
    have hs' : ∀ z ∈ acc ++ [y], z.length ≤ 1000000 := fun z hm => (List.mem_append.mp hm).elim (hs z) fun h => by rw [List.mem_singleton.mp h]; exact hy
    have hl : (acc ++ [y]).length + ts.length ≤ 16 := by
      rw [List.length_append, List.length_singleton]
      rw [List.length_cons] at hz
      omega
    have h1 := catL_len (acc ++ [y]) hs'
    have h3 : (acc ++ [y]).length * 1000000 ≤ 16 * 1000000 := Nat.mul_le_mul_right _ (by omega)
    rw [catL_app] at h1
    refine ⟨y, tk, rfl, by omega, ?_⟩
    rw [← catL_app]
    exact ih (acc ++ [y]) s1 H1 Q R hl hs' I1 q1 k
def tJoin (ts : List TE) : TE := fun σ H Q => tJb ts [] σ H fun out H1 => Q (.str (catS out)) H1
theorem pe_joinedB {v1 v2 : Expr} {rest : List Expr} {ts : List TE} {pos : Pos} (h : PJ X (v1 :: v2 :: rest) ts) (hn : ts.length ≤ 16 := by decide) : PE X (.JoinedStr (v1 :: v2 :: rest) pos) (tJoin ts) := by
  refine ⟨fun pins s σ H Q I q => ?_⟩
  exact wpAny_JoinedStr (pjb_run h [] s H (fun out H1 => Q (.str (catS out)) H1) _ (by rw [List.length_nil, Nat.zero_add]; exact hn) (fun y hy => by cases hy) I q fun out s1 H1 hz I1 q1 => ⟨hz, .str (catL out), H1, I1.tok _, ⟨_, rfl⟩, by rw [catL_catS]; exact q1⟩)
/-- {x}, x a text -/
def tFS (te : TE) : TE := fun σ H Q => te σ H fun x H1 => ∃ y : Str, x = .str y ∧ y.length ≤ 1000000 ∧ Q (.str y) H1
theorem pe_fmtS {e : Expr} {te : TE} {pos : Pos} (he : PE X e te) : PE X (.FormattedValue e (-1) none pos) (tFS te) := by
  refine ⟨fun pins s σ H Q I h => ?_⟩
  refine wpAny_FormattedValue_plain (thn (he.run pins s σ H _ I h) fun v s1 hv => ?_)
  obtain ⟨x, H1, I1, r1, y, rfl, hz, q⟩ := hv
  obtain ⟨t, rfl⟩ := r1
  have : (1000000 : Nat) ≤ sizeLine := by decide
  exact wpAny_formatField_str ⟨.str y, H1, I1, ⟨t, rfl⟩, q⟩ ⟨.str y, H1, I1.tok _, ⟨_, rfl⟩, q⟩ (by omega)
end
/-! ### numbers as texts -/
theorem log_ok {n : Nat} (h : n ≤ 1000000000000) : ((n : Nat) : Int).natAbs.log2 < 1920 := by
  rw [Int.natAbs_natCast]
  by_cases h0 : n = 0
  · subst h0
    decide
  · exact (Nat.log2_lt h0).mpr (Nat.lt_of_le_of_lt h (by decide +kernel))
theorem tl_n (n : Nat) : tl (num n) = numL n := tl_num n
theorem num_len {n : Nat} (h : n ≤ 1000000000000) : (num n).length ≤ 13 := by
  rw [len_tl, tl_n]
  exact numL_len (by decide) (by omega)
theorem num_ne (n : Nat) : num n ≠ "" := fun e => numL_ne n (by rw [← tl_n, e]; rfl)
/-- a number's first sign isn't 0 -/
theorem numL_head : ∀ (n : Nat), 1 ≤ n → ∃ c r, numL n = c :: r ∧ 49 ≤ c ∧ c ≤ 57 := by
  intro n
  induction n using Nat.strongRecOn with
  | ind n ih =>
    intro h
    by_cases h10 : n < 10
    · exact ⟨48 + n, [], numL_lt h10, by omega, by omega⟩
    · obtain ⟨c, r, e, h1, h2⟩ := ih (n / 10) (by omega) (by omega)
      exact ⟨c, r ++ [48 + n % 10], by rw [numL_step (by omega), e]; rfl, h1, h2⟩
theorem numL_dig (n : Nat) : ∀ c ∈ numL n, 48 ≤ c ∧ c ≤ 57 := fun c hc => by
  by_cases h : c < 48 ∨ 57 < c
  · exact absurd hc (numL_free h)
  · omega
theorem dig_mem {c : Nat} (h : 48 ≤ c ∧ c ≤ 57) : c ∈ tl "0123456789" :=
  (by decide +kernel : ∀ c, c < 58 → 48 ≤ c → c ∈ tl "0123456789") c (by omega) h.1
theorem int_dig {c : Nat} (h : 48 ≤ c ∧ c ≤ 57) : intText? (⟨#[c]⟩ : Str) = some ((c : Int) - 48) := by
  have e : (⟨#[c]⟩ : Str) = num (c - 48) := ext_tl (by
    rw [tl_n, numL_lt (by omega)]
    show [c] = _
    rw [show 48 + (c - 48) = c by omega])
  rw [e]
  have h1 := int_num (n := c - 48) (by rw [numL_lt (by omega)]; show 1 ≤ 4300; decide)
  rw [show num (c - 48) = Str.ofString (toString (((c - 48 : Nat)) : Int)) from rfl, h1]
  congr 1
  omega
/-! ### a polynomial's text -/
theorem tp_zero (c : Nat) : textPair (0, c) = num c := rfl
/-- the parts ahead of n and behind it -/
def tpF (c : Nat) : Str := if c = 1 then ("" : Str) else num c ++ ("*" : Str)
def tpB (e : Nat) : Str := if e = 1 then ("" : Str) else ("^" : Str) ++ num e
theorem tp_pos {e : Nat} (c : Nat) (h : e ≠ 0) : textPair (e, c) = tpF c ++ "n" ++ tpB e := by
  unfold textPair
  rw [if_neg h]
  rfl
theorem tpF_free {c s : Nat} (h : s < 42 ∨ 57 < s) : s ∉ tl (tpF c) := by
  unfold tpF
  by_cases h1 : c = 1
  · rw [if_pos h1, emp_nil]
    intro hm
    cases hm
  · rw [if_neg h1, tl_append, tl_n]
    intro hm
    rcases List.mem_append.mp hm with q | q
    · exact numL_free (by omega) q
    · have : s = 42 := by
        have e : tl ("*" : Str) = [42] := by decide +kernel
        rw [e] at q
        exact List.mem_singleton.mp q
      omega
theorem tpB_free {e s : Nat} (h : s < 48 ∨ 57 < s ∧ s ≠ 94) : s ∉ tl (tpB e) := by
  unfold tpB
  by_cases h1 : e = 1
  · rw [if_pos h1, emp_nil]
    intro hm
    cases hm
  · rw [if_neg h1, tl_append, tl_n]
    intro hm
    rcases List.mem_append.mp hm with q | q
    · have : s = 94 := by
        have e : tl ("^" : Str) = [94] := by decide +kernel
        rw [e] at q
        exact List.mem_singleton.mp q
      omega
    · exact numL_free (by omega) q
theorem tp_nospace (q : Nat × Nat) : 32 ∉ tl (textPair q) := by
  obtain ⟨e, c⟩ := q
  by_cases h : e = 0
  · subst h
    rw [tp_zero, tl_n]
    exact numL_free (.inl (by decide))
  · rw [tp_pos c h, tl_append, tl_append]
    intro hm
    have e1 : tl ("n" : Str) = [110] := by decide +kernel
    rw [e1] at hm
    rcases List.mem_append.mp hm with q | q
    · rcases List.mem_append.mp q with q | q
      · exact tpF_free (.inl (by decide)) q
      · exact absurd (List.mem_singleton.mp q) (by decide)
    · exact tpB_free (.inl (by decide)) q
theorem tp_len {q : Nat × Nat} (h1 : q.1 ≤ 3) (h2 : q.2 ≤ 1000000000000) : (textPair q).length ≤ 30 := by
  obtain ⟨e, c⟩ := q
  have hc := num_len h2
  have he := num_len (n := e) (by show e ≤ _; have : e ≤ 3 := h1; omega)
  by_cases h : e = 0
  · subst h
    rw [tp_zero]
    have : (num c).length ≤ 13 := hc
    omega
  · rw [tp_pos c h, s_len, s_len]
    have a1 : (tpF c).length ≤ 14 := by
      unfold tpF
      split
      · decide
      · rw [s_len]
        have : ("*" : Str).length = 1 := by decide +kernel
        have : (num c).length ≤ 13 := hc
        omega
    have a2 : (tpB e).length ≤ 14 := by
      unfold tpB
      split
      · decide
      · rw [s_len]
        have : ("^" : Str).length = 1 := by decide +kernel
        omega
    have : ("n" : Str).length = 1 := by decide +kernel
    omega
theorem PolyOk.len {p : Poly} (h : PolyOk p) : p.length ≤ 4 := by
  obtain ⟨h1, h2⟩ := h
  have key : ∀ (p : Poly) (k : Nat), p.Pairwise (fun a b => a.1 < b.1) → (∀ q ∈ p, k ≤ q.1 ∧ q.1 ≤ 3) → p.length + k ≤ 4 ∨ p = [] := by
    intro p
    induction p with
    | nil => exact fun _ _ _ => .inr rfl
    | cons a r ih =>
      intro k hp hk
      obtain ⟨ha, hr⟩ := List.pairwise_cons.mp hp
      have h3 := hk a (List.mem_cons_self ..)
      rcases ih (a.1 + 1) hr (fun q hq => ⟨ha q hq, (hk q (List.mem_cons_of_mem _ hq)).2⟩) with q | q
      · left
        rw [List.length_cons]
        omega
      · subst q
        left
        simp
        omega
  rcases key p 0 h1 fun q hq => ⟨Nat.zero_le _, (h2 q hq).1⟩ with q | q
  · omega
  · rw [q]
    decide
theorem split_joinS {y : Str} {s : Nat} {S : List Nat} (ey : tl y = s :: S) (hk : y.cps.all (· < 256) = true) {parts : List Str} (hne : parts ≠ []) (hp : ∀ p ∈ parts, s ∉ tl p) : Txt.split (Str.join y parts) y = parts := by
  rw [← join_eq]
  exact TL.split_join ey hk hne hp
theorem tp_split (p : Poly) (h : p ≠ []) : Txt.split (textPoly p) " + " = p.reverse.map textPair := by
  unfold textPoly
  rw [if_neg h]
  refine split_joinS (y := " + ") (s := 32) (S := [43, 32]) (parts := p.reverse.map textPair) (by decide +kernel) (by decide +kernel) (by simpa using h) fun q hq => ?_
  obtain ⟨z, _, rfl⟩ := List.mem_map.mp hq
  exact tp_nospace z
theorem joinL_len (S : List Nat) (m : Nat) : ∀ ps : List (List Nat), (∀ p ∈ ps, p.length ≤ m) → (joinL S ps).length ≤ ps.length * (m + S.length)
  | [], _ => Nat.zero_le _
  | [a], h => by
    show a.length ≤ 1 * (m + S.length)
    have := h a (List.mem_cons_self ..)
    omega
  | a :: b :: r, h => by
    have h1 := h a (List.mem_cons_self ..)
    have h2 := joinL_len S m (b :: r) fun p hp => h p (List.mem_cons_of_mem _ hp)
    show (a ++ (S ++ joinL S (b :: r))).length ≤ _
    rw [List.length_append, List.length_append, List.length_cons, Nat.succ_mul]
    omega
theorem join_len (y : Str) (m : Nat) (ps : List Str) (h : ∀ p ∈ ps, p.length ≤ m) : (Str.join y ps).length ≤ ps.length * (m + y.length) := by
  rw [len_tl, tl_join, len_tl]
  have := joinL_len (tl y) m (ps.map tl) fun p hp => by
    obtain ⟨z, hz, rfl⟩ := List.mem_map.mp hp
    rw [← len_tl]
    exact h z hz
  rwa [List.length_map] at this
theorem sum_le (m : Nat) : ∀ ys : List Str, (∀ y ∈ ys, y.length ≤ m) → (ys.map (·.length)).sum ≤ ys.length * m
  | [], _ => Nat.zero_le _
  | y :: ys, h => by
    have h1 := h y (List.mem_cons_self ..)
    have h2 := sum_le m ys fun z hz => h z (List.mem_cons_of_mem _ hz)
    rw [List.map_cons, List.sum_cons, List.length_cons, Nat.succ_mul]
    omega
theorem join_fits {ys : List Str} {m n k : Nat} (h : ∀ y ∈ ys, y.length ≤ m) (hn : ys.length ≤ n) (hb : n * m + n * k ≤ 16777216) : (ys.map (·.length)).sum + ys.length * k ≤ 16777216 := by
  have h1 := sum_le m ys h
  have h2 : ys.length * m ≤ n * m := Nat.mul_le_mul_right _ hn
  have h3 : ys.length * k ≤ n * k := Nat.mul_le_mul_right _ hn
  omega
theorem tpoly_len {p : Poly} (h : PolyOk p) : (textPoly p).length ≤ 132 := by
  unfold textPoly
  split
  · decide
  · have h1 := join_len " + " 30 (p.reverse.map textPair) fun q hq => by
      obtain ⟨z, hz, rfl⟩ := List.mem_map.mp hq
      have := h.2 z (List.mem_reverse.mp hz)
      exact tp_len this.1 this.2.2
    have h2 : (" + " : Str).length = 3 := by decide +kernel
    rw [h2, List.length_map, List.length_reverse] at h1
    have h3 := h.len
    have : p.length * 33 ≤ 4 * 33 := Nat.mul_le_mul_right _ h3
    omega
theorem tpoly_zero {p : Poly} (h : PolyOk p) : textPoly p = "0" ↔ p = [] := by
  constructor
  · intro e
    apply Classical.byContradiction
    intro hp
    have hs := tp_split p hp
    rw [e] at hs
    have e2 : Txt.split ("0" : Str) " + " = [("0" : Str)] := by
      have := split_joinS (y := " + ") (s := 32) (S := [43, 32]) (parts := [("0" : Str)]) (by decide +kernel) (by decide +kernel) (by simp) (fun q hq => by
        rw [List.mem_singleton.mp hq]
        decide +kernel)
      exact this
    rw [e2] at hs
    match p, hp with
    | [(e, c)], _ =>
      have h1 : ("0" : Str) = textPair (e, c) := by simpa using hs
      have h2 := congrArg tl h1
      have h0 : tl ("0" : Str) = [48] := by decide +kernel
      have h3 := h.2 (e, c) (by simp)
      by_cases he : e = 0
      · subst he
        rw [tp_zero, tl_n, h0] at h2
        obtain ⟨c', r, e', h4, h5⟩ := numL_head c h3.2.1
        rw [e'] at h2
        have := (List.cons.inj h2).1
        omega
      · rw [tp_pos c he, h0] at h2
        have hm : (110 : Nat) ∈ tl (tpF c ++ "n" ++ tpB e) := by
          rw [tl_append, tl_append]
          have e1 : tl ("n" : Str) = [110] := by decide +kernel
          rw [e1]
          simp
        rw [← h2] at hm
        simp at hm
    | a :: b :: r, _ =>
      have := congrArg List.length hs
      simp at this
  · rintro rfl
    rfl
theorem ends_app (a b : Str) (hb : tl b ≠ []) : Txt.endswith (a ++ b) b = true := by
  have h := (at_iff (x := a ++ b) hb a.length).mpr (by rw [tl_append, len_tl, List.drop_left]; have := pre_self (tl b) []; rwa [List.append_nil] at this)
  unfold Txt.endswith
  have e : (a ++ b).length - b.length = a.length := by rw [s_len]; omega
  rw [e, h.2, s_len]
  simp
theorem starts_app (a b : Str) (hb : tl b ≠ []) : Txt.startswith (b ++ a) b = true := by
  have h := (at_iff (x := b ++ a) hb 0).mpr (by rw [tl_append, List.drop_zero]; exact pre_self (tl b) _)
  unfold Txt.startswith
  rw [h.2, s_len]
  simp
theorem cut_last_app (a : Str) (b : Str) (hb : (tl b).length = 1) : cutS (a ++ b) none (some (-1)) = a := by
  refine sx ?_
  rw [tl_cut_last _ (by rw [tl_append]; intro e; rw [(List.append_eq_nil_iff.mp e).2] at hb; cases hb), tl_append]
  match tl b, hb with
  | [x], _ => simp
theorem cut_one_app (a : Str) (b : Str) (hb : (tl b).length = 1) : cutS (b ++ a) (some 1) none = a := by
  refine sx ?_
  rw [tl_cut_one, tl_append]
  match tl b, hb with
  | [x], _ => rfl
end NP
/-! NPData2 -/
namespace NP
open PySem PySem.Spec PyProof.Rows L2 TL
/-! ## words, parts, kinds -/
def Pl.word : Pl → Str
  | .is .. => "is" | .equal .. => "equal" | .empty .. => "empty" | .inside .. => "inside" | .at .. => "at"
def Pl.args : Pl → List Str
  | .is a i x => [a, i, x] | .equal a i b j => [a, i, b, j] | .empty a i => [a, i] | .inside a i => [a, i] | .at i j => [i, j]
def Pl.kinds : Pl → List Str
  | .is .. => ["tape", "index", "letter"] | .equal .. => ["tape", "index", "tape", "index"] | .empty .. => ["tape", "index"] | .inside .. => ["tape", "index"] | .at .. => ["index", "index"]
theorem Pl.ws_eq (p : Pl) : p.ws = p.word :: p.args := by cases p <;> rfl
def Si.word : Si → Str
  | .set .. => "set" | .copy .. => "copy" | .clear .. => "clear" | .zero .. => "zero" | .up .. => "up" | .down .. => "down" | .same .. => "same" | .go .. => "do" | .choose .. => "choose" | .wins .. => "wins"
def Si.args : Si → List Str
  | .set a i x => [a, i, x] | .copy a i b j => [a, i, b, j] | .clear a i => [a, i] | .zero i => [i] | .up i => [i] | .down i => [i] | .same i j => [i, j] | .go p => [p] | .choose pl a i ls => [pl, a, i, ls] | .wins pl => [pl]
def Si.kinds : Si → List Str
  | .set .. => ["tape", "index", "letter"] | .copy .. => ["tape", "index", "tape", "index"] | .clear .. => ["tape", "index"] | .zero .. => ["index"] | .up .. => ["index"] | .down .. => ["index"] | .same .. => ["index", "index"] | .go .. => ["procedure"] | .choose .. => ["player", "tape", "index", "letters"] | .wins .. => ["player"]
theorem Si.ws_eq (p : Si) : p.ws = p.word :: p.args := by cases p <;> rfl
/-- a part of that kind -/
def PartOk (k z : Str) : Prop := if k = "letter" then Lt z else if k = "letters" then Lts z else if k = "player" then Pla z else Nm z
theorem part_letter {z : Str} (h : Lt z) : PartOk "letter" z := h
theorem part_letters {z : Str} (h : Lts z) : PartOk "letters" z := h
theorem part_player {z : Str} (h : Pla z) : PartOk "player" z := h
theorem part_tape {z : Str} (h : Nm z) : PartOk "tape" z := h
theorem part_index {z : Str} (h : Nm z) : PartOk "index" z := h
theorem part_proc {z : Str} (h : Nm z) : PartOk "procedure" z := h
/-- the parts are of these kinds -/
def Parts : List Str → List Str → Prop
  | [], [] => True
  | k :: ks, z :: zs => PartOk k z ∧ Parts ks zs
  | _, _ => False
theorem Parts.len : ∀ {ks zs : List Str}, Parts ks zs → zs.length = ks.length
  | [], [], _ => rfl
  | _ :: _, _ :: _, h => by rw [List.length_cons, List.length_cons, Parts.len h.2]
theorem Parts.get : ∀ {ks zs : List Str} {i : Nat} {k z : Str}, Parts ks zs → ks[i]? = some k → zs[i]? = some z → PartOk k z
  | _ :: _, _ :: _, 0, _, _, h, e1, e2 => by cases e1; cases e2; exact h.1
  | _ :: _, _ :: _, i + 1, _, _, h, e1, e2 => Parts.get (i := i) h.2 e1 e2
def Pl.fit (p : Pl) : Prop := Parts p.kinds p.args
def Tst.fit (t : Tst) : Prop := t.base.fit ∧ t.nots ≤ 3
def Si.fit (s : Si) : Prop := Parts s.kinds s.args
mutual
def Cmd.fit : Cmd → Prop
  | .si s => s.fit
  | .re p cs => PolyOk p ∧ fits cs
  | .if_ t cs os => t.fit ∧ fits cs ∧ fits os
def fits : List Cmd → Prop
  | [] => True
  | c :: cs => c.fit ∧ fits cs
end
theorem fits_app : ∀ {a b : List Cmd}, fits (a ++ b) ↔ fits a ∧ fits b
  | [], b => by simp [fits]
  | c :: a, b => by
    show c.fit ∧ fits (a ++ b) ↔ (c.fit ∧ fits a) ∧ fits b
    rw [fits_app (a := a), and_assoc]
theorem fits_all : ∀ {cs : List Cmd}, fits cs ↔ ∀ c ∈ cs, c.fit
  | [] => ⟨fun _ => (by intro d h; cases h), fun _ => trivial⟩
  | c :: cs => by
    show c.fit ∧ fits cs ↔ _
    rw [fits_all (cs := cs)]
    exact ⟨fun h d hd => (List.mem_cons.mp hd).elim (fun e => e ▸ h.1) (h.2 d), fun h => ⟨h c (List.mem_cons_self ..), fun d hd => h d (List.mem_cons_of_mem _ hd)⟩⟩
theorem cnts_app : ∀ {a b : List Cmd}, cnts (a ++ b) = cnts a + cnts b
  | [], b => by simp [cnts]
  | c :: a, b => by
    show c.cnt + cnts (a ++ b) = c.cnt + cnts a + cnts b
    rw [cnts_app (a := a)]
    omega
theorem cnt_pos (c : Cmd) : 1 ≤ c.cnt := by
  cases c <;> simp only [Cmd.cnt] <;> omega
theorem cnts_len : ∀ cs : List Cmd, cs.length ≤ cnts cs
  | [] => Nat.zero_le _
  | c :: cs => by
    have h1 := cnt_pos c
    have h2 := cnts_len cs
    show cs.length + 1 ≤ c.cnt + cnts cs
    omega
/-- the commands within -/
def Cmd.inner : Cmd → List Cmd
  | .si _ => []
  | .re _ cs => cs
  | .if_ _ cs os => cs ++ os
theorem Cmd.inner_cnt (c : Cmd) : c.cnt = 1 + cnts c.inner := by
  cases c with
  | si s => rfl
  | re p cs => rfl
  | if_ t cs os =>
    show 1 + cnts cs + cnts os = 1 + cnts (cs ++ os)
    rw [cnts_app]
    omega
theorem Cmd.inner_fit {c : Cmd} (h : c.fit) : fits c.inner := by
  cases c with
  | si s => trivial
  | re p cs => exact h.2
  | if_ t cs os => exact fits_app.mpr h.2
/-! ### from sound with names to of the right kinds -/
def Sub (l : List Str) : Prop := ∀ z ∈ l, Nm z
theorem Pl.ok_fit {ts is : List Str} (h1 : Sub ts) (h2 : Sub is) {p : Pl} (h : p.ok ts is) : p.fit := by
  cases p with
  | is a i x => exact ⟨part_tape (h1 _ h.1), part_index (h2 _ h.2.1), part_letter h.2.2, trivial⟩
  | equal a i b j => exact ⟨part_tape (h1 _ h.1), part_index (h2 _ h.2.1), part_tape (h1 _ h.2.2.1), part_index (h2 _ h.2.2.2), trivial⟩
  | empty a i => exact ⟨part_tape (h1 _ h.1), part_index (h2 _ h.2), trivial⟩
  | inside a i => exact ⟨part_tape (h1 _ h.1), part_index (h2 _ h.2), trivial⟩
  | «at» i j => exact ⟨part_index (h2 _ h.1), part_index (h2 _ h.2), trivial⟩
theorem Si.ok_fit {ts own is ps : List Str} (h1 : Sub ts) (h0 : Sub own) (h2 : Sub is) (h3 : Sub ps) {s : Si} (h : s.ok ts own is ps) : s.fit := by
  cases s with
  | set a i x => exact ⟨part_tape (h0 _ h.1), part_index (h2 _ h.2.1), part_letter h.2.2, trivial⟩
  | copy a i b j => exact ⟨part_tape (h0 _ h.1), part_index (h2 _ h.2.1), part_tape (h1 _ h.2.2.1), part_index (h2 _ h.2.2.2), trivial⟩
  | clear a i => exact ⟨part_tape (h0 _ h.1), part_index (h2 _ h.2), trivial⟩
  | zero i => exact ⟨part_index (h2 _ h), trivial⟩
  | up i => exact ⟨part_index (h2 _ h), trivial⟩
  | down i => exact ⟨part_index (h2 _ h), trivial⟩
  | same i j => exact ⟨part_index (h2 _ h.1), part_index (h2 _ h.2), trivial⟩
  | go p => exact ⟨part_proc (h3 _ h), trivial⟩
  | choose pl a i ls => exact ⟨part_player h.1, part_tape (h0 _ h.2.1), part_index (h2 _ h.2.2.1), part_letters h.2.2.2, trivial⟩
  | wins pl => exact ⟨part_player h, trivial⟩
mutual
theorem Cmd.ok_fit {ts own is ps : List Str} (h1 : Sub ts) (h0 : Sub own) (h2 : Sub is) (h3 : Sub ps) : ∀ {c : Cmd}, c.ok ts own is ps → c.fit
  | .si s, h => Si.ok_fit h1 h0 h2 h3 h
  | .re p cs, h => ⟨h.1, oks_fit h1 h0 h2 h3 h.2⟩
  | .if_ t cs os, h => ⟨⟨Pl.ok_fit h1 h2 h.1.1, h.1.2⟩, oks_fit h1 h0 h2 h3 h.2.1, oks_fit h1 h0 h2 h3 h.2.2⟩
theorem oks_fit {ts own is ps : List Str} (h1 : Sub ts) (h0 : Sub own) (h2 : Sub is) (h3 : Sub ps) : ∀ {cs : List Cmd}, oks ts own is ps cs → fits cs
  | [], _ => trivial
  | _ :: _, h => ⟨Cmd.ok_fit h1 h0 h2 h3 h.1, oks_fit h1 h0 h2 h3 h.2⟩
end
/-! ### the tables -/
def kwL : List Str := ["tape", "size", "index", "to", "procedure", "end", "if", "else", "repeat", "do", "one", "two", "chooses", "from", "wins", "is", "equals", "empty", "has", "not", "up", "down", "n"]
theorem kwds_eq (K : PySem.W.Frag) : kwds.map (He.Dv.v K) = kwL.map V.str := rfl
section
variable {w : World} {K : PySem.W.Frag} {mg : Str → Option Value}
theorem tab_test (T : Top w K mg) (p : Pl) : KTup K (He.ga K "TEST_PARTS") p.word (p.kinds.map V.str) := by
  cases p with
  | is a i x => exact T.tupE 0
  | equal a i b j => exact T.tupE 1
  | empty a i => exact T.tupE 2
  | inside a i => exact T.tupE 3
  | «at» i j => exact T.tupE 4
theorem tab_cmd (T : Top w K mg) (s : Si) : KTup K (He.ga K "COMMAND_PARTS") s.word (s.kinds.map V.str) := by
  cases s with
  | set a i x => exact T.tupE 5
  | copy a i b j => exact T.tupE 6
  | clear a i => exact T.tupE 7
  | zero i => exact T.tupE 8
  | up i => exact T.tupE 9
  | down i => exact T.tupE 10
  | same i j => exact T.tupE 11
  | go p => exact T.tupE 12
  | choose pl a i ls => exact T.tupE 13
  | wins pl => exact T.tupE 14
end
/-! ### while, with its own next -/
theorem while_w {c : TT} {tb : TS} {D : Ends} {σ : L2.St} {H : Hp} (Pv : L2.St → Hp → Prop) (μ : L2.St → Hp → Nat) (h0 : Pv σ H)
    (hs : ∀ σ H, Pv σ H → c σ H fun b H1 => if b = true then ∃ N : L2.St → Hp → Prop, (∀ σ' H', N σ' H' → ∃ m', m' < μ σ H ∧ (m' = μ σ' H' ∧ Pv σ' H')) ∧ tb { D with nx := N, ct := N, bk := D.nx } σ H1 else D.nx σ H1) : tWhile c tb D σ H :=
  ⟨fun m σ H => m = μ σ H ∧ Pv σ H, ⟨_, rfl, h0⟩, by rintro m σ H ⟨rfl, p⟩; exact hs σ H p⟩
/-- the next turn: the invariant, and the measure is less -/
theorem wgo {Pv : L2.St → Hp → Prop} {μ : L2.St → Hp → Nat} {m : Nat} {R : (L2.St → Hp → Prop) → Prop} (h : R fun σ' H' => Pv σ' H' ∧ μ σ' H' < m) : ∃ N : L2.St → Hp → Prop, (∀ σ' H', N σ' H' → ∃ m', m' < m ∧ (m' = μ σ' H' ∧ Pv σ' H')) ∧ R N :=
  ⟨_, fun _ _ h => ⟨_, h.2, rfl, h.1⟩, h⟩
theorem Same.up {H0 H : Hp} {l : Addr} {o : HO} (s : Same H0 H) (h : H0 l = none) : Same H0 (upd H l o) := fun b x e => by
  rw [upd_ne (ne_of_none e h)]
  exact s b x e
end NP
/-! NPDraw -/
namespace NP
open PySem PySem.Spec PyProof.Rows L2 TL
/-! ## the deck -/
def dk (l : Addr) (m n : Int) : List (Key × V) := [(Sum.inr "left", V.ref l), (Sum.inr "mixed", V.int m), (Sum.inr "draws", V.int n)]
theorem kn1 : ¬ ((Sum.inr ("left" : Str) : Key) = (Sum.inr ("mixed" : Str) : Key)) := by decide +kernel
theorem kn2 : ¬ ((Sum.inr ("left" : Str) : Key) = (Sum.inr ("draws" : Str) : Key)) := by decide +kernel
theorem kn3 : ¬ ((Sum.inr ("mixed" : Str) : Key) = (Sum.inr ("draws" : Str) : Key)) := by decide +kernel
theorem dk_left (l : Addr) (m n : Int) : valV (dk l m n) (Sum.inr "left") = some (.ref l) := valV_pos rfl
theorem dk_mixed (l : Addr) (m n : Int) : valV (dk l m n) (Sum.inr "mixed") = some (.int m) := (valV_neg kn1).trans (valV_pos rfl)
theorem dk_draws (l : Addr) (m n : Int) : valV (dk l m n) (Sum.inr "draws") = some (.int n) := (valV_neg kn2).trans ((valV_neg kn3).trans (valV_pos rfl))
theorem put_draws (l : Addr) (m n k : Int) : putK (dk l m n) (Sum.inr "draws") (.int k) = dk l m k := by rfl
theorem put_mixed (l : Addr) (m n k : Int) : putK (dk l m n) (Sum.inr "mixed") (.int k) = dk l k n := by rfl
structure Deck (H : Hp) (d l : Addr) : Prop where
  ex : ∃ m n : Int, H d = some (.dK (dk l m n))
  ls : ∃ ns : List Int, H l = some (.lst (ns.map V.int)) ∧ ns.length ≤ 63
theorem Deck.ne {H : Hp} {d l : Addr} (h : Deck H d l) : d ≠ l := fun e => by
  obtain ⟨m, n, h1⟩ := h.ex
  obtain ⟨ns, h2, _⟩ := h.ls
  rw [e, h2] at h1
  cases h1
theorem Deck.keep {H H' : Hp} {d l : Addr} (h : Deck H d l) (e1 : H' d = H d) (e2 : H' l = H l) : Deck H' d l :=
  ⟨let ⟨m, n, a⟩ := h.ex; ⟨m, n, by rw [e1]; exact a⟩, let ⟨ns, a, b⟩ := h.ls; ⟨ns, by rw [e2]; exact a, b⟩⟩
theorem Deck.same {H H' : Hp} {d l : Addr} (h : Deck H d l) (s : Same H H') : Deck H' d l :=
  ⟨let ⟨m, n, a⟩ := h.ex; ⟨m, n, s _ _ a⟩, let ⟨ns, a, b⟩ := h.ls; ⟨ns, s _ _ a, b⟩⟩
theorem get_left {H : Hp} {d l : Addr} {m n : Int} (h : H d = some (.dK (dk l m n))) : DGet H d (.str "left") (some (.ref l)) := by have := DGet.k (k := Sum.inr "left") h; rwa [dk_left] at this
theorem get_mixed {H : Hp} {d l : Addr} {m n : Int} (h : H d = some (.dK (dk l m n))) : DGet H d (.str "mixed") (some (.int m)) := by have := DGet.k (k := Sum.inr "mixed") h; rwa [dk_mixed] at this
theorem get_draws {H : Hp} {d l : Addr} {m n : Int} (h : H d = some (.dK (dk l m n))) : DGet H d (.str "draws") (some (.int n)) := by have := DGet.k (k := Sum.inr "draws") h; rwa [dk_draws] at this
theorem sq_ok {a b : Int} (h : 0 ≤ a % 2147483647 ∧ a % 2147483647 < 2147483647) : -(2 ^ 64) < a % 2147483647 ∧ a % 2147483647 < 2 ^ 64 := by omega
theorem emod_lt {a b : Int} (h : 0 < b) : 0 ≤ a % b ∧ a % b < b := ⟨Int.emod_nonneg _ (by omega), Int.emod_lt_of_pos _ h⟩
section
variable {P : Program} {w : World} {K : PySem.W.Frag} {mg : Str → Option Value} {base : Heap}
def sp_law_deck (K : PySem.W.Frag) : Sp := fun vs H Q _ => ∃ (a : Addr) (ns : List Int) (z : Int), vs = [.ref a, .int z] ∧ SqL K H a (ns.map V.int) ∧ (∀ H', Same H H' → SqL K H' a (ns.map V.int)) ∧ ns.length ≤ 100000 ∧ ∀ d l H', Same H H' → H d = none → H l = none → Deck H' d l → Q (.ref d) H'
abbrev nn_law_deck : List Str := ["_law_script", "_law_seed", "_law_mixed", "_law_cell"]
theorem sc_law_deck : FnScope nn_law_deck ["_law_script", "_law_seed"] d_law_deck.scope := ⟨rfl, rfl, rfl, by decide +kernel, rfl, by decide +kernel, by decide +kernel⟩
theorem ok_law_deck (T : Top w K mg) : OK P w K mg base 1 "_law_deck" ["_law_script", "_law_seed"] (sp_law_deck K) := by
  refine Has.ok (d := d_law_deck) (T.has 63 65 rfl rfl rfl rfl rfl) sc_law_deck (fun _ _ _ _ _ _ us hl => match us, hl with | [_, _], _ => rfl) (by rintro _ _ _ _ ⟨_, _, _, rfl, _⟩; rfl) (fun f cdv A outer s H vs Q E hRm h => ?_)
  obtain ⟨a, ns, z, rfl, ha, hst, hl, q⟩ := h
  refine ⟨_, (pss_cons (ps_set (i := 2) sc_law_deck.nd rfl (.inl rfl) (pv 1))
    (pss_cons (ps_for PassesOwn.never rfl (pi_list (pe_slice sl_list (pv 0) po_none (po_some pe_int))) (pg_name (i := 3) sc_law_deck.nd rfl (.inl rfl)) (pss_one (ps_set (i := 2) sc_law_deck.nd rfl (.inl rfl) (pe_op op_mod (pe_callTy call_int1 (by rfl) (T.free 102) (by decide +kernel) (pa_cons (pe_op op_add (pe_op op_add (pe_op op_mul (pv 2) pe_int) (pe_op op_mod (pe_callTy call_int1 (by rfl) (T.free 102) (by decide +kernel) (pa_cons (pv 3) pa_nil)) pe_int)) pe_int) pa_nil)) pe_int))))
    (pss_one (ps_ret (pe_disp (pps_cons pe_str (pe_revL (pe_callTy lstA (by rfl) (T.free 98) (by decide +kernel) (pa_cons (pe_slice sl_list (pv 0) po_none (po_some pe_int)) pa_nil))) (pps_cons pe_str (pv 2) (pps_cons pe_str pe_int pps_nil))) (by rfl) (by rfl) (fun z => by cases z) (by decide)))))), ?_⟩
  have hz63 : ∀ H', Same H H' → True := fun _ _ => trivial
  refine ⟨_, rfl, _, rfl, 63, rfl, a, _, rfl, ha, fun p hp => ?_⟩
  have s1 : Same H (upd H p (.lst (cutV (ns.map V.int) none (some 63)))) := same_upd hp
  have hc : cutV (ns.map V.int) none (some 63) = (ns.take 63).map V.int := by
    rw [show (63 : Int) = ((63 : Nat) : Int) from rfl, cutV_to, List.map_take]
  rw [hc] at s1 ⊢
  have hp1 : (upd H p (.lst ((ns.take 63).map V.int))) p = some (.lst ((ns.take 63).map V.int)) := upd_same
  generalize upd H p (.lst ((ns.take 63).map V.int)) = H1 at s1 hp1 ⊢
  refine ⟨p, rfl, ⟨_, .of hp1⟩, ?_⟩
  refine for_it walk_list (fun i σ H' => Same H1 H' ∧ ∃ (m : Int) (o3 : Option V), σ = [some (.ref a), some (.int z), some (.int m), o3]) ⟨.refl _, z, none, rfl⟩ (fun i σ H' _ hp => .of (hp.1 _ _ hp1)) (fun i x σ H2 H3 hi hp hy => ?_) (fun σ H2 hp => ?_)
  · obtain ⟨s2, m, o3, rfl⟩ := hp
    obtain ⟨rfl, hx⟩ := hy
    rw [List.getElem?_map] at hx
    obtain ⟨c, _, rfl⟩ := Option.map_eq_some_iff.mp hx
    refine ⟨_, rfl, _, _, rfl, rfl, .inr ⟨by decide, by decide⟩, _, rfl, .inl ⟨_, rfl, _, _, rfl, rfl, (by show (0 : Int) < 2147483629; decide), _, _, rfl, rfl, _, _, rfl, rfl, .inl ⟨_, rfl, _, _, rfl, rfl, (by show (0 : Int) < 2147483563; decide), ?_⟩⟩⟩
    exact ⟨s2, _, _, rfl⟩
  · obtain ⟨s2, m, o3, rfl⟩ := hp
    have s3 := s1.trans s2
    refine fun d hd => ⟨_, rfl, 63, rfl, a, _, rfl, hst _ (s3.trans (same_upd hd)), fun p1 hp1 => ?_⟩
    have f0 : ∀ {G : Hp} {t : Addr}, Same H G → G t = none → H t = none := fun {G t} sg e => by
      cases ht : H t with
      | none => rfl
      | some o => rw [sg _ _ ht] at e; cases e
    have s4 : Same H (upd H2 d (.dK [])) := s3.trans (same_upd hd)
    have hd4 : (upd H2 d (.dK [])) d = some (.dK []) := upd_same
    have hd0 : H d = none := f0 s3 hd
    generalize upd H2 d (.dK []) = H4 at s4 hd4 hp1 ⊢
    rw [hc]
    have s5 : Same H4 (upd H4 p1 (.lst ((ns.take 63).map V.int))) := same_upd hp1
    have hp5 : (upd H4 p1 (.lst ((ns.take 63).map V.int))) p1 = some (.lst ((ns.take 63).map V.int)) := upd_same
    generalize upd H4 p1 (.lst ((ns.take 63).map V.int)) = H5 at s5 hp5 ⊢
    refine ⟨p1, _, rfl, .inr hp5, fun p2 hp2 => ?_⟩
    have s6 : Same H5 (upd H5 p2 (.lst ((ns.take 63).map V.int))) := same_upd hp2
    have hp6 : (upd H5 p2 (.lst ((ns.take 63).map V.int))) p2 = some (.lst ((ns.take 63).map V.int)) := upd_same
    generalize upd H5 p2 (.lst ((ns.take 63).map V.int)) = H6 at s6 hp6 ⊢
    refine ⟨p2, _, rfl, .of hp6, fun l hl7 => ?_⟩
    have s7 : Same H6 (upd H6 l (.lst ((ns.take 63).map V.int).reverse)) := same_upd hl7
    have hp7 : (upd H6 l (.lst ((ns.take 63).map V.int).reverse)) l = some (.lst ((ns.take 63).map V.int).reverse) := upd_same
    have sa := s4.trans (s5.trans s6)
    have hl0 : H l = none := f0 sa hl7
    have hd7 := s7 _ _ (s6 _ _ (s5 _ _ hd4))
    have hne : d ≠ l := fun e => by rw [← e, s6 _ _ (s5 _ _ hd4)] at hl7; cases hl7
    have sb := sa.trans s7
    generalize upd H6 l (.lst ((ns.take 63).map V.int).reverse) = H7 at sb hp7 hd7 ⊢
    refine ⟨_, rfl, hd7, dk l m 0, rfl, by show 3 ≤ 15; decide, ?_⟩
    refine q d l _ ?_ hd0 hl0 ⟨⟨m, 0, upd_same⟩, ⟨(ns.take 63).reverse, by rw [upd_ne (Ne.symm hne), List.map_reverse]; exact hp7, by rw [List.length_reverse, List.length_take]; omega⟩⟩
    intro t o ht
    by_cases e : t = d
    · rw [e, hd0] at ht; cases ht
    · rw [upd_ne e]; exact sb _ _ ht
def sp_law_draw : Sp := fun vs H Q _ => ∃ (d l : Addr) (k : Nat), vs = [.ref d, .int k] ∧ Deck H d l ∧ 0 < k ∧ k ≤ 2000000000000 ∧ ∀ (r : Nat) H', r < k → SameX [d, l] H H' → TK H H' → Deck H' d l → Q (.int r) H'
abbrev nn_law_draw : List Str := ["_law_deck_here", "_law_many", "_law_cell", "_law_figure"]
theorem sc_law_draw : FnScope nn_law_draw ["_law_deck_here", "_law_many"] d_law_draw.scope := ⟨rfl, rfl, rfl, by decide +kernel, rfl, by decide +kernel, by decide +kernel⟩
theorem ok_law_draw (T : Top w K mg) : OK P w K mg base 1 "_law_draw" ["_law_deck_here", "_law_many"] sp_law_draw := by
  refine Has.ok (d := d_law_draw) (T.has 64 66 rfl rfl rfl rfl rfl) sc_law_draw (fun _ _ _ _ _ _ us hl => match us, hl with | [_, _], _ => rfl) (by rintro _ _ _ _ ⟨_, _, _, rfl, _⟩; rfl) (fun f cdv A outer s H vs Q E hRm h => ?_)
  obtain ⟨d, l, k, rfl, hD, hk, hk2, q⟩ := h
  obtain ⟨m, n, hd⟩ := hD.ex
  obtain ⟨ns, hl, hlen⟩ := hD.ls
  have hne := hD.ne
  have big : 1000 ≤ sizeLine := by decide
  refine ⟨_, (pss_cons (ps_dput (hu_of hRm) (pv 0) pe_str (pe_op op_add (pe_dget (hu_of hRm) (pv 0) pe_str (fun _ _ => rfl)) pe_int) rfl)
    (pss_cons (ps_if (pt_cmpR (op_neNilL hRm.units0) (pe_dget (hu_of hRm) (pv 0) pe_str (fun _ _ => rfl)) (pe_lst pa_nil) (nomark _)) (pss_cons (ps_set (i := 2) sc_law_draw.nd rfl (.inl rfl) (pe_bm0 PySem.F.plainAttrs_list PySem.F.slot_list_pop PySem.F.type_list_pop mt_pop (pe_dget (hu_of hRm) (pv 0) pe_str (fun _ _ => rfl))))
    (pss_cons (ps_if (pt_cmpR op_ge (pv 2) (pe_op op_pow pe_int pe_int) (nomark _)) (pss_cons (ps_expr (pe_bm PySem.F.plainAttrs_list PySem.F.slot_list_append PySem.F.type_list_append mt_append (pe_dget (hu_of hRm) (pv 0) pe_str (fun _ _ => rfl)) (pa_cons (pe_op op_fdivW (pv 2) (pe_callB (call_max2 rfl) (by rfl) (T.free 105) (by decide +kernel) (pa_cons pe_int (pa_cons (pv 1) pa_nil)))) pa_nil)))
    (pss_one (ps_ret (pe_op op_mod (pe_callTy call_int1 (by rfl) (T.free 102) (by decide +kernel) (pa_cons (pv 2) pa_nil)) (pv 1))))) pss_nil)
    (pss_one (ps_dput (hu_of hRm) (pv 0) pe_str (pe_op op_mod (pe_callTy call_int1 (by rfl) (T.free 102) (by decide +kernel) (pa_cons (pe_op op_add (pe_op op_add (pe_op op_mul (pe_dget (hu_of hRm) (pv 0) pe_str (fun _ _ => rfl)) pe_int) (pe_op op_mod (pe_callTy call_int1 (by rfl) (T.free 102) (by decide +kernel) (pa_cons (pv 2) pa_nil)) pe_int)) pe_int) pa_nil)) pe_int) rfl)))) pss_nil)
    (pss_cons (ps_set (i := 3) sc_law_draw.nd rfl (.inl rfl) (pe_op op_mod (pe_callTy call_int1 (by rfl) (T.free 102) (by decide +kernel) (pa_cons (pe_op op_add (pe_dget (hu_of hRm) (pv 0) pe_str (fun _ _ => rfl)) (pe_op op_mul pe_int (pe_dget (hu_of hRm) (pv 0) pe_str (fun _ _ => rfl)))) pa_nil)) pe_int))
    (pss_cons (ps_set (i := 3) sc_law_draw.nd rfl (.inl rfl) (pe_op op_mod (pe_callTy call_int1 (by rfl) (T.free 102) (by decide +kernel) (pa_cons (pe_op op_add (pe_op op_add (pe_op op_mul (pv 3) (pv 3)) (pe_op op_mul pe_int (pe_dget (hu_of hRm) (pv 0) pe_str (fun _ _ => rfl)))) pe_int) pa_nil)) pe_int))
    (pss_cons (ps_set (i := 3) sc_law_draw.nd rfl (.inl rfl) (pe_op op_mod (pe_callTy call_int1 (by rfl) (T.free 102) (by decide +kernel) (pa_cons (pe_op op_add (pe_op op_mul (pv 3) pe_int) pe_int) pa_nil)) pe_int))
    (pss_one (ps_ret (pe_op op_mod (pe_callTy call_int1 (by rfl) (T.free 102) (by decide +kernel) (pa_cons (pe_op op_fdivW (pv 3) pe_int) pa_nil)) (pv 1))))))))), ?_⟩
  have hk' : (0 : Int) < (k : Nat) := by omega
  have fin : ∀ (z : Int) (H' : Hp), SameX [d, l] H H' → TK H H' → Deck H' d l → Q (.int (z % (k : Nat))) H' := fun z H' sx tk dD => by
    have h1 := emod_lt (a := z) hk'
    have e : z % ((k : Nat) : Int) = (((z % ((k : Nat) : Int)).toNat : Nat) : Int) := by omega
    rw [e]
    exact q _ H' (by omega) sx tk dD
  refine ⟨_, rfl, d, _, rfl, get_draws hd, _, _, rfl, rfl, _, rfl, d, _, rfl, DPut.k (k := Sum.inr "draws") hd (by show 3 < sizeLine; decide), ?_⟩
  rw [put_draws]
  have x1 : SameX [d, l] H (upd H d (.dK (dk l m (n + 1)))) := samex_upd (by simp)
  have k1 : TK H (upd H d (.dK (dk l m (n + 1)))) := tk_upd fun q z => by rw [hd] at z; cases z
  have d1 : (upd H d (.dK (dk l m (n + 1)))) d = some (.dK (dk l m (n + 1))) := upd_same
  have l1 : (upd H d (.dK (dk l m (n + 1)))) l = some (.lst (ns.map V.int)) := by rw [upd_ne (Ne.symm hne)]; exact hl
  generalize upd H d (.dK (dk l m (n + 1))) = H1 at x1 k1 d1 l1 ⊢
  refine ⟨_, rfl, d, _, rfl, get_left d1, by show 0 ≤ sizeLine; decide, fun t ht => ?_⟩
  have st : Same H1 (upd H1 t (.lst [])) := same_upd ht
  refine ⟨l, t, ns.map V.int, rfl, rfl, .of (st _ _ l1), .of upd_same, _, rfl, ?_⟩
  generalize upd H1 t (.lst []) = H2 at st ⊢
  have x2 := x1.trans (same_x st _)
  have k2 := k1.trans (same_tk st)
  have d2 := st _ _ d1
  have l2 := st _ _ l1
  rcases List.eq_nil_or_concat ns with e | ⟨rs, c, e⟩
  · subst e
    refine iteF ?_
    have em := emod_lt (a := m + 31337 * (n + 1)) (b := 2147483647) (by decide)
    refine ⟨_, rfl, d, _, rfl, get_mixed d2, _, rfl, d, _, rfl, get_draws d2, _, _, rfl, rfl, .inl ⟨by decide, by decide⟩, _, _, rfl, rfl, .inl ⟨_, rfl, _, _, rfl, rfl, (by show (0 : Int) < 2147483647; decide), ?_⟩⟩
    refine ⟨_, rfl, _, rfl, _, _, rfl, rfl, .inl ⟨by omega, by omega⟩, _, rfl, d, _, rfl, get_draws d2, _, _, rfl, rfl, .inl ⟨by decide, by decide⟩, _, _, rfl, rfl, _, _, rfl, rfl, .inl ⟨_, rfl, _, _, rfl, rfl, (by show (0 : Int) < 2147483629; decide), ?_⟩⟩
    refine ⟨_, rfl, _, _, rfl, rfl, .inr ⟨by decide, by decide⟩, _, _, rfl, rfl, .inl ⟨_, rfl, _, _, rfl, rfl, (by show (0 : Int) < 2147483563; decide), ?_⟩⟩
    refine ⟨_, rfl, _, _, rfl, rfl, ⟨by decide, by decide⟩, .inl ⟨_, rfl, _, rfl, _, _, rfl, rfl, hk', ?_⟩⟩
    exact fin _ _ x2 k2 ⟨⟨_, _, d2⟩, ⟨[], l2, by decide⟩⟩
  · rw [List.concat_eq_append] at e
    subst e
    rw [show ((rs ++ [c]).map V.int).isEmpty = false by rw [List.map_append]; cases rs <;> rfl]
    rw [List.map_append] at l2
    have l2 : H2 l = some (.lst (rs.map V.int ++ [.int c])) := l2
    rw [List.length_append, List.length_singleton] at hlen
    refine iteT ?_
    refine ⟨_, rfl, d, _, rfl, get_left d2, .inl ⟨rfl, _, .of l2⟩, l, _, _, rfl, rfl, l2, by rw [List.length_append, List.length_singleton, Nat.add_sub_cancel]; exact List.getElem?_concat_length, ?_⟩
    rw [List.dropLast_concat]
    have x3 : SameX [d, l] H (upd H2 l (.lst (rs.map V.int))) := x2.trans (samex_upd (by simp))
    have k3 : TK H (upd H2 l (.lst (rs.map V.int))) := k2.trans (tk_upd fun q z => by rw [l2] at z; cases z)
    have d3 : (upd H2 l (.lst (rs.map V.int))) d = some (.dK (dk l m (n + 1))) := by rw [upd_ne hne]; exact d2
    have l3 : (upd H2 l (.lst (rs.map V.int))) l = some (.lst (rs.map V.int)) := upd_same
    generalize upd H2 l (.lst (rs.map V.int)) = H3 at x3 k3 d3 l3 ⊢
    refine ⟨_, rfl, _, _, rfl, rfl, ⟨by decide, by decide, by decide⟩, _, _, rfl, rfl, _, rfl, ?_⟩
    by_cases hc : (10 : Int) ^ (18 : Int).toNat ≤ c
    · refine iteDt hc ?_
      refine ⟨_, rfl, d, _, rfl, get_left d3, .inl ⟨rfl, _, .of l3⟩, _, rfl, _, rfl, _, _, rfl, _, _, rfl, rfl, ?_, l, _, _, rfl, rfl, l3, by rw [List.length_map]; omega, ?_⟩
      · by_cases h2 : ((k : Nat) : Int) > 2
        · rw [if_pos h2]
          exact ⟨hk', by
            rw [Int.natAbs_natCast]
            exact (Nat.log2_lt (by omega)).mpr (Nat.lt_of_le_of_lt hk2 (by decide +kernel))⟩
        · rw [if_neg h2]
          exact ⟨by decide, by decide⟩
      refine ⟨_, rfl, .inl ⟨_, rfl, _, rfl, _, _, rfl, rfl, hk', fin _ _ (x3.trans (samex_upd (by simp))) (k3.trans (tk_upd fun q z => by rw [l3] at z; cases z)) ⟨⟨m, n + 1, by rw [upd_ne hne]; exact d3⟩, ⟨rs ++ [_], by rw [List.map_append]; exact upd_same, by rw [List.length_append, List.length_singleton]; exact hlen⟩⟩⟩⟩
    · refine iteDf hc ?_
      refine ⟨_, rfl, d, _, rfl, get_mixed d3, _, _, rfl, rfl, .inr ⟨by decide, by decide⟩, _, rfl, .inl ⟨_, rfl, _, _, rfl, rfl, (by show (0 : Int) < 2147483629; decide), _, _, rfl, rfl, _, _, rfl, rfl, .inl ⟨_, rfl, _, _, rfl, rfl, (by show (0 : Int) < 2147483587; decide), _, rfl, d, _, rfl, DPut.k (k := Sum.inr "mixed") d3 (by show 3 < sizeLine; decide), ?_⟩⟩⟩
      rw [put_mixed]
      generalize (m * 39373 + c % 2147483629 + 61) % 2147483587 = m2
      have x4 : SameX [d, l] H (upd H3 d (.dK (dk l m2 (n + 1)))) := x3.trans (samex_upd (by simp))
      have k4 : TK H (upd H3 d (.dK (dk l m2 (n + 1)))) := k3.trans (tk_upd fun q z => by rw [d3] at z; cases z)
      have d4 : (upd H3 d (.dK (dk l m2 (n + 1)))) d = some (.dK (dk l m2 (n + 1))) := upd_same
      have l4 : (upd H3 d (.dK (dk l m2 (n + 1)))) l = some (.lst (rs.map V.int)) := by rw [upd_ne (Ne.symm hne)]; exact l3
      generalize upd H3 d (.dK (dk l m2 (n + 1))) = H4 at x4 k4 d4 l4 ⊢
      have em := emod_lt (a := m2 + 31337 * (n + 1)) (b := 2147483647) (by decide)
      refine ⟨_, rfl, d, _, rfl, get_mixed d4, _, rfl, d, _, rfl, get_draws d4, _, _, rfl, rfl, .inl ⟨by decide, by decide⟩, _, _, rfl, rfl, .inl ⟨_, rfl, _, _, rfl, rfl, (by show (0 : Int) < 2147483647; decide), ?_⟩⟩
      refine ⟨_, rfl, _, rfl, _, _, rfl, rfl, .inl ⟨by omega, by omega⟩, _, rfl, d, _, rfl, get_draws d4, _, _, rfl, rfl, .inl ⟨by decide, by decide⟩, _, _, rfl, rfl, _, _, rfl, rfl, .inl ⟨_, rfl, _, _, rfl, rfl, (by show (0 : Int) < 2147483629; decide), ?_⟩⟩
      refine ⟨_, rfl, _, _, rfl, rfl, .inr ⟨by decide, by decide⟩, _, _, rfl, rfl, .inl ⟨_, rfl, _, _, rfl, rfl, (by show (0 : Int) < 2147483563; decide), ?_⟩⟩
      refine ⟨_, rfl, _, _, rfl, rfl, ⟨by decide, by decide⟩, .inl ⟨_, rfl, _, rfl, _, _, rfl, rfl, hk', ?_⟩⟩
      exact fin _ _ x4 k4 ⟨⟨_, _, d4⟩, ⟨rs, l4, by omega⟩⟩
end
end NP
/-! NPLooks2 -/
namespace NP
open PySem PySem.Spec PyProof.Rows L2 TL
section
variable {P : Program} {w : World} {K : PySem.W.Frag} {mg : Str → Option Value} {base : Heap}
def sp_is_letters : Sp := fun vs H Q _ => ∃ z : Str, vs = [.str z] ∧ (∀ c ∈ tl z, 97 ≤ c ∧ c ≤ 122) ∧ z.length ≤ 1000000 ∧ ∀ H', Same H H' → Q (.bl true) H'
abbrev nn_is_letters : List Str := ["thing"]
theorem sc_is_letters : FnScope nn_is_letters ["thing"] d_is_letters.scope := ⟨rfl, rfl, rfl, by decide +kernel, rfl, by decide +kernel, by decide +kernel⟩
theorem ok_is_letters (T : Top w K mg) : OK P w K mg base 2 "is_letters" ["thing"] sp_is_letters := by
  refine Has.ok (d := d_is_letters) (T.has 4 7 rfl rfl rfl rfl rfl) sc_is_letters (fun _ _ _ _ _ _ us hl => match us, hl with | [_], _ => rfl) (by rintro _ _ _ _ ⟨_, rfl, _⟩; rfl) (fun f cdv A outer s H vs Q E hr h => ?_)
  obtain ⟨z, rfl, hz, hl, q⟩ := h
  refine ⟨_, (pss_one (ps_ret (pe_c (ok_is_word_of T) (hr.mono (by decide)) (by rfl) (pa_cons (pv 0) (pa_cons (pe_gs (T.str 84) rfl) pa_nil))))), ?_⟩
  exact ⟨_, rfl, z, _, rfl, fun c hc => abc_mem (hz c hc).1 (hz c hc).2, hl, q⟩
def sp_is_letter : Sp := fun vs H Q _ => ∃ z : Str, vs = [.str z] ∧ Lt z ∧ ∀ H', Same H H' → Q (.bl true) H'
abbrev nn_is_letter : List Str := ["thing"]
theorem sc_is_letter : FnScope nn_is_letter ["thing"] d_is_letter.scope := ⟨rfl, rfl, rfl, by decide +kernel, rfl, by decide +kernel, by decide +kernel⟩
theorem ok_is_letter (T : Top w K mg) : OK P w K mg base 3 "is_letter" ["thing"] sp_is_letter := by
  refine Has.ok (d := d_is_letter) (T.has 5 8 rfl rfl rfl rfl rfl) sc_is_letter (fun _ _ _ _ _ _ us hl => match us, hl with | [_], _ => rfl) (by rintro _ _ _ _ ⟨_, rfl, _⟩; rfl) (fun f cdv A outer s H vs Q E hr h => ?_)
  obtain ⟨z, rfl, hz, q⟩ := h
  have hz1 : (∀ c ∈ tl z, 97 ≤ c ∧ c ≤ 122) ∧ z.length = 1 := (by decide +kernel : ∀ z ∈ letters4, (∀ c ∈ tl z, 97 ≤ c ∧ c ≤ 122) ∧ z.length = 1) z hz
  refine ⟨_, (pss_one (ps_ret (pe_and (pe_c (ok_is_letters T) (hr.mono (by decide)) (by rfl) (pa_cons (pv 0) pa_nil)) (pe_one (pe_cmpR op_eq (pe_callB call_len_str (by rfl) (T.free 92) (by decide +kernel) (pa_cons (pv 0) pa_nil)) pe_int (nomark _)))))), ?_⟩
  refine ⟨_, rfl, z, rfl, hz1.1, by rw [hz1.2]; decide, fun H' s1 => ⟨true, rfl, iteT ⟨_, rfl, z, rfl, by rw [hz1.2]; decide, rfl, ?_⟩⟩⟩
  show Q (.bl (decide (V.int (z.length : Nat) = V.int 1))) H'
  rw [hz1.2]
  exact q H' s1
def sp_is_ascending_letters : Sp := fun vs H Q _ => ∃ z : Str, vs = [.str z] ∧ Lts z ∧ ∀ H', Same H H' → Q (.bl true) H'
abbrev nn_is_ascending_letters : List Str := ["thing", "one", "other"]
theorem sc_is_ascending_letters : FnScope nn_is_ascending_letters ["thing"] d_is_ascending_letters.scope := ⟨rfl, rfl, rfl, by decide +kernel, rfl, by decide +kernel, by decide +kernel⟩
theorem ok_is_ascending_letters (T : Top w K mg) : OK P w K mg base 3 "is_ascending_letters" ["thing"] sp_is_ascending_letters := by
  refine Has.ok (d := d_is_ascending_letters) (T.has 6 9 rfl rfl rfl rfl rfl) sc_is_ascending_letters (fun _ _ _ _ _ _ us hl => match us, hl with | [_], _ => rfl) (by rintro _ _ _ _ ⟨_, rfl, _⟩; rfl) (fun f cdv A outer s H vs Q E hr h => ?_)
  obtain ⟨z, rfl, hz, q⟩ := h
  obtain ⟨hz1, hz2, hz3, hz4⟩ := hz
  have hl : z.length ≤ 1000000 := by rw [len_tl]; omega
  refine ⟨_, (pss_cons (ps_if (PW.pt (pw_or (pt_not (pt_val (pe_c (ok_is_letters T) (hr.mono (by decide)) (by rfl) (pa_cons (pv 0) pa_nil)))) (pw_or1 (pt_cmpR op_eq (pv 0) pe_str (nomark _))))) (pss_one (ps_ret pe_bl)) pss_nil)
    (pss_one (ps_ret (pe_callB (cr_all rfl) (by rfl) (T.free 93) (by decide +kernel) (pa_cons (pe_lc (own := [("one", 1), ("other", 2)]) (g := gTup K 2 (gCons (gName 1) (gCons (gName 2) gNil))) rfl sc_is_ascending_letters.nd (pi_zipS (by rfl) (T.free 94) (pa_cons (pv 0) (pa_cons (pe_slice sl_str (pv 0) (po_some pe_int) po_none) pa_nil))) (blkOk_by (N := nn_is_ascending_letters) (sc := d_is_ascending_letters.scope) (by decide +kernel)) (fun _ _ _ _ _ => (pg_tup rfl (pgs_cons (pg_name (i := 1) sc_is_ascending_letters.nd rfl (.inl rfl) (.inr rfl)) (pgs_cons (pg_name (i := 2) sc_is_ascending_letters.nd rfl (.inl rfl) (.inr rfl)) pgs_nil)))) (fun _ _ _ _ _ => pts_nil) (fun _ _ _ _ _ => (pe_cmpR op_lt_str (pv 1) (pv 2) (nomark _)))) pa_nil))))), ?_⟩
  refine ⟨_, rfl, z, rfl, hz3, hl, fun H1 s1 => ⟨true, rfl, ?_⟩⟩
  refine iteF ⟨_, rfl, rfl, _, rfl, ?_⟩
  rw [decide_eq_false (fun e => hz1 (by rw [V.str.inj e]; decide +kernel))]
  refine iteF ?_
  have hs : z.length ≤ sizeLine := by
    have : (1000000:Nat) ≤ sizeLine := by decide
    omega
  have hc : tl (cutS z (some 1) none) = (tl z).drop 1 := tl_cut_one z
  refine ⟨_, rfl, _, rfl, 1, rfl, z, rfl, hs, z, cutS z (some 1) none, rfl, ?_⟩
  refine lc_all (walk_zipS rfl) (by rw [Str.length] at hl; omega) (fun _ _ => trivial) (fun i x H2 H3 hi s2 hy C k => ?_) fun D H2 bs s2 e eb => ⟨D, bs, rfl, .of e, by rw [eb]; exact q H2 (s1.trans s2)⟩
  obtain ⟨T, c, d, rfl, hT, rfl, h1, h2⟩ := hy
  refine ⟨T, _, rfl, .of upd_same, rfl, _, _, rfl, _, _, rfl, rfl, rfl, _, rfl, _, rfl, ⟨#[c]⟩, ⟨#[d]⟩, rfl, rfl, ?_⟩
  have h1' : (tl z)[i]? = some c := by rw [← h1]; exact Array.getElem?_toList
  have h2' : (tl z)[i + 1]? = some d := by
    have : ((tl z).drop 1)[i]? = some d := by rw [← hc, ← h2]; exact Array.getElem?_toList
    rw [List.getElem?_drop] at this
    rw [Nat.add_comm]
    exact this
  have hlt : c < d := by
    obtain ⟨p1, e1⟩ := List.getElem?_eq_some_iff.mp h1'
    obtain ⟨p2, e2⟩ := List.getElem?_eq_some_iff.mp h2'
    have := List.pairwise_iff_getElem.mp hz2 i (i + 1) p1 p2 (Nat.lt_succ_self _)
    rwa [e1, e2] at this
  rw [decide_eq_true (show ([c] : List Nat) < [d] from List.Lex.rel hlt)]
  exact k _ (same_upd hT)
def sp_is_player : Sp := fun vs H Q _ => ∃ z : Str, vs = [.str z] ∧ Pla z ∧ ∀ H', Same H H' → Q (.bl true) H'
abbrev nn_is_player : List Str := ["thing"]
theorem sc_is_player : FnScope nn_is_player ["thing"] d_is_player.scope := ⟨rfl, rfl, rfl, by decide +kernel, rfl, by decide +kernel, by decide +kernel⟩
theorem ok_is_player (T : Top w K mg) : OK P w K mg base 1 "is_player" ["thing"] sp_is_player := by
  refine Has.ok (d := d_is_player) (T.has 7 10 rfl rfl rfl rfl rfl) sc_is_player (fun _ _ _ _ _ _ us hl => match us, hl with | [_], _ => rfl) (by rintro _ _ _ _ ⟨_, rfl, _⟩; rfl) (fun f cdv A outer s H vs Q E hr h => ?_)
  obtain ⟨z, rfl, hz, q⟩ := h
  refine ⟨_, (pss_one (ps_ret (pe_and (pe_callB call_isi (by rfl) (T.free 91) (by decide +kernel) (pa_cons (pv 0) (pa_cons (pe_bltn (v := .ty "str") rfl (T.free 101) (by decide +kernel) rfl) pa_nil))) (pe_one (pe_cmpR op_in_seq (pv 0) (pe_tup (pa_cons pe_str (pa_cons pe_str pa_nil))) (by rfl)))))), ?_⟩
  refine ⟨_, rfl, _, _, .type "str", .type "str", true, rfl, .ty _, .base (.str z), kit_ty (by decide +kernel), true, rfl, iteT ?_⟩
  refine ⟨_, rfl, by show 2 ≤ sizeLine; decide, fun p hp => ⟨p, _, rfl, .inr (SqT.of upd_same), rfl, rfl, ?_⟩⟩
  have e : inV (.str z) [.str "one", .str "two"] = true := by
    rcases hz with rfl | rfl <;> decide +kernel
  show Q (.bl (inV (.str z) [.str "one", .str "two"])) _
  rw [e]
  exact q _ (same_upd hp)
end
end NP
/-! NPPoly -/
namespace NP
open PySem PySem.Spec PyProof.Rows L2 TL
/-! ### what a polynomial is in the heap -/
theorem Rp.tupE {H : Hp} {ds : List PyData} {v : V} (h : Rp H (.tuple ds) v) : ∃ a xs, v = .ref a ∧ H a = some (.tup xs) ∧ RpL H ds xs := h
theorem RpL.get {H : Hp} : ∀ {ds : List PyData} {xs : List V} {i : Nat} {d : PyData}, RpL H ds xs → ds[i]? = some d → ∃ x, xs[i]? = some x ∧ Rp H d x
  | [], _, _, _, _, e => by simp at e
  | _ :: _, _, 0, _, ⟨v, vs, q, h, _⟩, e => by
    subst q
    cases e
    exact ⟨v, rfl, h⟩
  | _ :: _, _, i + 1, _, ⟨v, vs, q, _, r⟩, e => by
    subst q
    exact RpL.get (i := i) r e
theorem Rp.pair {H : Hp} {q : Nat × Nat} {v : V} (h : Rp H (encQ q) v) : ∃ a, v = .ref a ∧ H a = some (.tup [.int q.1, .int q.2]) := by
  obtain ⟨a, xs, e, ha, r⟩ := h
  obtain ⟨v1, r1, e1, h1, v2, r2, e2, h2, h3⟩ := r
  cases h3
  rw [e1, e2, show v1 = _ from h1, show v2 = _ from h2] at ha
  exact ⟨a, e, ha⟩
theorem Rp.poly {H : Hp} {p : Poly} {v : V} (h : Rp H (encP p) v) : ∃ (a : Addr) (xs : List V), v = .ref a ∧ H a = some (.tup xs) ∧ xs.length = p.length ∧ ∀ (i : Nat) (q : Nat × Nat), p[i]? = some q → ∃ b : Addr, xs[i]? = some (.ref b) ∧ H b = some (.tup [.int q.1, .int q.2]) := by
  obtain ⟨a, xs, e, ha, r⟩ := h
  refine ⟨a, xs, e, ha, by rw [RpL.len r, List.length_map], fun i q hq => ?_⟩
  obtain ⟨x, hx, hr⟩ := RpL.get r (i := i) (d := encQ q) (by rw [List.getElem?_map, hq]; rfl)
  obtain ⟨b, rfl, hb⟩ := Rp.pair hr
  exact ⟨b, hx, hb⟩
section
variable {P : Program} {w : World} {K : PySem.W.Frag} {mg : Str → Option Value} {base : Heap}
def sp_is_poly_value : Sp := fun vs H Q _ => ∃ (p : Poly) (v : V), vs = [v] ∧ Rp H (encP p) v ∧ PolyOk p ∧ ∀ H', Same H H' → Q (.bl true) H'
abbrev nn_is_poly_value : List Str := ["thing", "pair", "one", "other"]
theorem sc_is_poly_value : FnScope nn_is_poly_value ["thing"] d_is_poly_value.scope := ⟨rfl, rfl, rfl, by decide +kernel, rfl, by decide +kernel, by decide +kernel⟩
theorem ok_is_poly_value (T : Top w K mg) : OK P w K mg base 3 "is_poly_value" ["thing"] sp_is_poly_value := by
  refine Has.ok (d := d_is_poly_value) (T.has 8 11 rfl rfl rfl rfl rfl) sc_is_poly_value (fun _ _ _ _ _ _ us hl => match us, hl with | [_], _ => rfl) (by rintro _ _ _ _ ⟨_, _, rfl, _⟩; rfl) (fun f cdv A outer s H vs Q E hRm h => ?_)
  obtain ⟨p, v, rfl, hv, hp, q⟩ := h
  obtain ⟨a, xs, rfl, ha, hl, hx⟩ := Rp.poly hv
  refine ⟨_, (pss_cons (ps_if (pt_not (pt_val (pe_callB isSame (by rfl) (T.free 91) (by decide +kernel) (pa_cons (pv 0) (pa_cons (pe_bltn (v := .ty "tuple") rfl (T.free 97) (by decide +kernel) rfl) pa_nil))))) (pss_one (ps_ret pe_bl)) pss_nil)
    (pss_cons (ps_if (pt_not (pt_val (pe_callB (cr_all rfl) (by rfl) (T.free 93) (by decide +kernel) (pa_cons (pe_lc (own := [("pair", 1)]) rfl sc_is_poly_value.nd (pi_tup (pv 0)) (blkOk_by (N := nn_is_poly_value) (sc := d_is_poly_value.scope) (by decide +kernel)) (fun _ _ _ _ _ => (pg_name (i := 1) sc_is_poly_value.nd rfl (.inl rfl))) (fun _ _ _ _ _ => pts_nil) (fun _ _ _ _ _ => (pe_and (pe_c (ok_is_tuple T) (hRm.mono (by decide)) (by rfl) (pa_cons (pv 1) (pa_cons pe_int pa_nil))) (pe_and (pe_c (ok_is_from T) (hRm.mono (by decide)) (by rfl) (pa_cons (pe_ix ixT (pv 1) pe_int (fun _ _ => rfl)) (pa_cons pe_int pa_nil))) (pe_one (pe_c (ok_is_from T) (hRm.mono (by decide)) (by rfl) (pa_cons (pe_ix ixT (pv 1) pe_int (fun _ _ => rfl)) (pa_cons pe_int pa_nil)))))))) pa_nil)))) (pss_one (ps_ret pe_bl)) pss_nil)
    (pss_one (ps_ret (pe_callB (cr_all rfl) (by rfl) (T.free 93) (by decide +kernel) (pa_cons (pe_lc (own := [("one", 2), ("other", 3)]) (g := gTup K 2 (gCons (gName 2) (gCons (gName 3) gNil))) rfl sc_is_poly_value.nd (RZ.pi_zipA (by rfl) (T.free 94) (pa_cons (pv 0) (pa_cons (pe_slice slT (pv 0) (po_some pe_int) po_none) pa_nil))) (blkOk_by (N := nn_is_poly_value) (sc := d_is_poly_value.scope) (by decide +kernel)) (fun _ _ _ _ _ => (pg_tup rfl (pgs_cons (pg_name (i := 2) sc_is_poly_value.nd rfl (.inl rfl) (.inr rfl)) (pgs_cons (pg_name (i := 3) sc_is_poly_value.nd rfl (.inl rfl) (.inr rfl)) pgs_nil)))) (fun _ _ _ _ _ => pts_nil) (fun _ _ _ _ _ => (pe_cmpR op_lt (pe_ix ixT (pv 2) pe_int (fun _ _ => rfl)) (pe_ix ixT (pv 3) pe_int (fun _ _ => rfl)) (nomark _)))) pa_nil)))))), ?_⟩
  have hn : xs.length ≤ 1000000 := by rw [hl]; exact Nat.le_trans hp.len (by decide)
  refine ⟨_, rfl, _, _, rfl, .tup ha, true, rfl, iteF ?_⟩
  refine ⟨_, rfl, a, rfl, ⟨xs, .of ha⟩, ?_⟩
  refine lc_all walk_tup hn (fun H' s1 => .of (s1 a _ ha)) (fun i x H1 H2 hi s1 hy C k => ?_) fun D H1 bs s1 e eb => ⟨D, bs, rfl, .of e, ?_⟩
  · obtain ⟨rfl, hx2⟩ := hy
    have hi' : i < p.length := by rw [← hl]; exact hi
    obtain ⟨b, hb, hb2⟩ := hx i p[i] (List.getElem?_eq_getElem hi')
    rw [hb] at hx2
    have e := Option.some.inj hx2
    subst e
    have hq := hp.2 p[i] (List.getElem_mem hi')
    have hb3 := s1 _ _ hb2
    refine ⟨rfl, _, rfl, _, _, _, rfl, hb3, ?_⟩
    refine ⟨true, rfl, iteT ⟨_, rfl, b, _, 0, _, rfl, rfl, hb3, rfl, _, _, rfl, by show (0 : Int) ≤ (p[i].1 : Int); omega, true, rfl, iteT ⟨_, rfl, b, _, 1, _, rfl, rfl, hb3, rfl, _, _, rfl, by show (1 : Int) ≤ (p[i].2 : Int); omega, k _ (Same.refl _)⟩⟩⟩
  · rw [eb]
    refine ⟨true, rfl, iteF ?_⟩
    have ha1 := s1 _ _ ha
    refine ⟨_, rfl, _, rfl, 1, rfl, a, xs, rfl, ha1, fun a2 H2 s2 ha2 => ?_⟩
    rw [cutV_one] at ha2
    have ha3 := s2 _ _ ha1
    refine ⟨a, a2, xs, xs.drop 1, rfl, .inr ⟨.of ha3, .of ha2, ?_⟩⟩
    refine lc_all (walk_zipT rfl) (by omega) (fun H' s3 => ⟨.of (s3 _ _ ha3), .of (s3 _ _ ha2)⟩) (fun i x H3 H4 hi s3 hy C k => ?_) fun D H3 bs s3 e eb => ⟨D, bs, rfl, .of e, by rw [eb]; exact q H3 ((s1.trans s2).trans s3)⟩
    obtain ⟨T, x, y, rfl, hT, rfl, h1, h2⟩ := hy
    have h2 : (xs.drop 1)[i]? = some y := h2
    have h1 : xs[i]? = some x := h1
    rw [List.getElem?_drop, Nat.add_comm] at h2
    rw [List.length_drop, hl] at hi
    have l1 : i < p.length := by omega
    have l2 : i + 1 < p.length := by omega
    obtain ⟨b1, hb1, hc1⟩ := hx i p[i] (List.getElem?_eq_getElem l1)
    obtain ⟨b2, hb2, hc2⟩ := hx (i + 1) p[i + 1] (List.getElem?_eq_getElem l2)
    rw [hb1] at h1
    rw [hb2] at h2
    cases h1
    cases h2
    have s5 : Same H H3 := (s1.trans s2).trans s3
    have hlt := List.pairwise_iff_getElem.mp hp.1 i (i + 1) l1 l2 (Nat.lt_succ_self _)
    refine ⟨T, _, rfl, .of upd_same, rfl, _, _, rfl, _, _, rfl, rfl, rfl, _, rfl, b1, _, 0, _, rfl, rfl, same_upd hT _ _ (s5 _ _ hc1), rfl, _, rfl, b2, _, 0, _, rfl, rfl, same_upd hT _ _ (s5 _ _ hc2), rfl, _, _, rfl, rfl, ?_⟩
    exact kDt (by omega) (k _ (same_upd hT))
def sp_text_of_pair : Sp := fun vs H Q _ => ∃ e c : Nat, vs = [.int e, .int c] ∧ e ≤ 1000000000000 ∧ c ≤ 1000000000000 ∧ Q (.str (textPair (e, c))) H
abbrev nn_text_of_pair : List Str := ["exponent", "coefficient", "front", "back"]
theorem sc_text_of_pair : FnScope nn_text_of_pair ["exponent", "coefficient"] d_text_of_pair.scope := ⟨rfl, rfl, rfl, by decide +kernel, rfl, by decide +kernel, by decide +kernel⟩
theorem ok_text_of_pair (T : Top w K mg) : OK P w K mg base 1 "text_of_pair" ["exponent", "coefficient"] sp_text_of_pair := by
  refine Has.ok (d := d_text_of_pair) (T.has 9 12 rfl rfl rfl rfl rfl) sc_text_of_pair (fun _ _ _ _ _ _ us hl => match us, hl with | [_, _], _ => rfl) (by rintro _ _ _ _ ⟨_, _, rfl, _⟩; rfl) (fun f cdv A outer s H vs Q E hRm h => ?_)
  obtain ⟨e, c, rfl, he, hc, q⟩ := h
  refine ⟨_, (pss_cons (ps_if (pt_cmpR op_eq (pv 0) pe_int (nomark _)) (pss_one (ps_ret (pe_callTy call_str_int (by rfl) (T.free 101) (by decide +kernel) (pa_cons (pv 1) pa_nil)))) pss_nil)
    (pss_cons (ps_set (i := 2) sc_text_of_pair.nd rfl (.inl rfl) (pe_ifExp (pt_cmpR op_eq (pv 1) pe_int (nomark _)) pe_str (pe_joinedB (.cons (pe_fmt (pv 1)) (.cons pe_str .nil)))))
    (pss_cons (ps_set (i := 3) sc_text_of_pair.nd rfl (.inl rfl) (pe_ifExp (pt_cmpR op_eq (pv 0) pe_int (nomark _)) pe_str (pe_joinedB (.cons pe_str (.cons (pe_fmt (pv 0)) .nil)))))
    (pss_one (ps_ret (pe_joinedB (.cons (pe_fmtS (pv 2)) (.cons pe_str (.cons (pe_fmtS (pv 3)) .nil))))))))), ?_⟩
  refine ⟨_, rfl, rfl, _, rfl, ?_⟩
  by_cases h0 : e = 0
  · subst h0
    exact iteDt rfl ⟨_, rfl, _, rfl, log_ok hc, q⟩
  · rw [tp_pos c h0] at q
    have hc1 := num_len hc
    have he1 := num_len he
    have hfin : ∀ a b : Str, a = tpF c → b = tpB e → Q (.str (catS [a, "n", b])) H := by
      rintro a b rfl rfl
      show Q (.str (tpF c ++ ("n" ++ tpB e))) H
      rw [← s_assoc]
      exact q
    refine iteDf (vi_ne (by omega)) ⟨_, rfl, rfl, _, rfl, ?_⟩
    have l1 : ("" : Str).length ≤ 1000000 := by decide
    have l2 : ("*" : Str).length ≤ 1000000 := by decide +kernel
    have l3 : ("n" : Str).length ≤ 1000000 := by decide +kernel
    have l4 : ("^" : Str).length ≤ 1000000 := by decide +kernel
    have l5 : (num c).length ≤ 1000000 := by omega
    have l6 : (num e).length ≤ 1000000 := by omega
    have l7 : (catS [num c, "*"]).length ≤ 1000000 := by
      show (num c ++ "*").length ≤ _
      rw [s_len]
      have : ("*" : Str).length = 1 := by decide +kernel
      omega
    have l8 : (catS ["^", num e]).length ≤ 1000000 := by
      show ("^" ++ num e).length ≤ _
      rw [s_len]
      have : ("^" : Str).length = 1 := by decide +kernel
      omega
    by_cases h1 : c = 1
    · refine iteDt (by rw [h1]; rfl) ?_
      have f1 : ("" : Str) = tpF c := by unfold tpF; rw [if_pos h1]
      refine ⟨_, rfl, rfl, _, rfl, ?_⟩
      by_cases h2 : e = 1
      · have f2 : ("" : Str) = tpB e := by unfold tpB; rw [if_pos h2]
        exact iteDt (by rw [h2]; rfl) ⟨_, rfl, _, rfl, l1, _, rfl, l1, _, rfl, l3, _, rfl, _, rfl, l1, _, rfl, l1, hfin _ _ f1 f2⟩
      · have f2 : catS ["^", num e] = tpB e := by unfold tpB; rw [if_neg h2]; rfl
        exact iteDf (vi_ne (by omega)) ⟨_, rfl, l4, _, rfl, .inr ⟨_, rfl, log_ok he, _, rfl, l6, _, rfl, _, rfl, l1, _, rfl, l1, _, rfl, l3, _, rfl, _, rfl, l8, _, rfl, l8, hfin _ _ f1 f2⟩⟩
    · have f1 : catS [num c, "*"] = tpF c := by unfold tpF; rw [if_neg h1]; rfl
      refine iteDf (vi_ne (by omega)) ⟨_, rfl, .inr ⟨_, rfl, log_ok hc, _, rfl, l5, _, rfl, l2, ?_⟩⟩
      refine ⟨_, rfl, rfl, _, rfl, ?_⟩
      by_cases h2 : e = 1
      · have f2 : ("" : Str) = tpB e := by unfold tpB; rw [if_pos h2]
        exact iteDt (by rw [h2]; rfl) ⟨_, rfl, _, rfl, l7, _, rfl, l7, _, rfl, l3, _, rfl, _, rfl, l1, _, rfl, l1, hfin _ _ f1 f2⟩
      · have f2 : catS ["^", num e] = tpB e := by unfold tpB; rw [if_neg h2]; rfl
        exact iteDf (vi_ne (by omega)) ⟨_, rfl, l4, _, rfl, .inr ⟨_, rfl, log_ok he, _, rfl, l6, _, rfl, _, rfl, l7, _, rfl, l7, _, rfl, l3, _, rfl, _, rfl, l8, _, rfl, l8, hfin _ _ f1 f2⟩⟩
def sp_text_of_poly : Sp := fun vs H Q _ => ∃ (p : Poly) (v : V), vs = [v] ∧ Rp H (encP p) v ∧ PolyOk p ∧ ∀ H', Same H H' → Q (.str (textPoly p)) H'
abbrev nn_text_of_poly : List Str := ["poly", "exponent", "coefficient"]
theorem sc_text_of_poly : FnScope nn_text_of_poly ["poly"] d_text_of_poly.scope := ⟨rfl, rfl, rfl, by decide +kernel, rfl, by decide +kernel, by decide +kernel⟩
theorem ok_text_of_poly (T : Top w K mg) : OK P w K mg base 2 "text_of_poly" ["poly"] sp_text_of_poly := by
  refine Has.ok (d := d_text_of_poly) (T.has 10 13 rfl rfl rfl rfl rfl) sc_text_of_poly (fun _ _ _ _ _ _ us hl => match us, hl with | [_], _ => rfl) (by rintro _ _ _ _ ⟨_, _, rfl, _⟩; rfl) (fun f cdv A outer s H vs Q E hRm h => ?_)
  obtain ⟨p, v, rfl, hv, hp, q⟩ := h
  obtain ⟨a, xs, rfl, ha, hl, hx⟩ := Rp.poly hv
  refine ⟨_, (pss_cons (ps_if (pt_cmpR (op_eqNilT hRm.units0) (pv 0) (pe_tup pa_nil) (nomark _)) (pss_one (ps_ret pe_str)) pss_nil)
    (pss_one (ps_ret (pe_join pe_str (pe_lc (own := [("exponent", 1), ("coefficient", 2)]) (g := gTup K 2 (gCons (gName 1) (gCons (gName 2) gNil))) rfl sc_text_of_poly.nd (RT.pi_revA (by rfl) (T.free 95) (pv 0)) (blkOk_by (N := nn_text_of_poly) (sc := d_text_of_poly.scope) (by decide +kernel)) (fun _ _ _ _ _ => (pg_tup rfl (pgs_cons (pg_name (i := 1) sc_text_of_poly.nd rfl (.inl rfl) (.inr rfl)) (pgs_cons (pg_name (i := 2) sc_text_of_poly.nd rfl (.inl rfl) (.inr rfl)) pgs_nil)))) (fun _ _ _ _ _ => pts_nil) (fun _ _ _ _ _ => (pe_c (ok_text_of_pair T) (hRm.mono (by decide)) (by rfl) (pa_cons (pv 1) (pa_cons (pv 2) pa_nil))))))))), ?_⟩
  have hlen := hp.len
  refine ⟨_, rfl, by show 0 ≤ sizeLine; decide, fun t ht => ?_⟩
  refine ⟨a, t, xs, rfl, rfl, .of (same_upd ht _ _ ha), .of upd_same, _, rfl, ?_⟩
  have s0 : Same H (upd H t (.tup [])) := same_upd ht
  by_cases h0 : p = []
  · have e1 : xs = [] := List.length_eq_zero_iff.mp (by rw [hl, h0]; rfl)
    subst e1
    have e2 : textPoly p = "0" := (tpoly_zero hp).mpr h0
    rw [e2] at q
    exact iteT (q _ s0)
  · have e1 : xs.isEmpty = false := by
      cases xs with
      | nil => exact absurd (List.length_eq_zero_iff.mp hl.symm) h0
      | cons _ _ => rfl
    rw [e1]
    have ha1 := s0 _ _ ha
    refine iteF ⟨⟨_, rfl⟩, _, rfl, a, xs, rfl, .inr ⟨.of ha1, fun D hD => ?_⟩⟩
    refine lc_map walk_revT hD (by omega) (fun H' s1 => .of (s1 _ _ ha1)) (fun i y _ => ∃ q, p.reverse[i]? = some q ∧ y = .str (textPair q)) (fun _ _ _ _ h _ => h) (fun i x H1 H2 hi s1 hy C k => ?_) fun ys H' hn s1 hD' hr => ?_
    · obtain ⟨rfl, hy⟩ := hy
      have hi2 : p.length - 1 - i < p.length := by omega
      rw [hl] at hy
      obtain ⟨b, hb, hb2⟩ := hx (p.length - 1 - i) p[p.length - 1 - i] (List.getElem?_eq_getElem hi2)
      rw [hb] at hy
      cases hy
      have hq := hp.2 p[p.length - 1 - i] (List.getElem_mem hi2)
      refine ⟨b, _, rfl, .of (s1 _ _ (s0 _ _ hb2)), rfl, _, _, rfl, _, _, rfl, rfl, rfl, _, rfl, _, rfl, _, _, rfl, by omega, hq.2.2, ?_⟩
      refine k _ _ (Same.refl _) ⟨p[p.length - 1 - i], ?_, rfl⟩
      rw [List.getElem?_reverse (by omega)]
      exact List.getElem?_eq_getElem hi2
    · have e3 : ys = (p.reverse.map textPair).map V.str := by
        refine List.ext_getElem? fun i => ?_
        by_cases hi : i < ys.length
        · obtain ⟨q, hq, e⟩ := hr i ys[i] (List.getElem?_eq_getElem hi)
          rw [List.getElem?_eq_getElem hi, List.getElem?_map, List.getElem?_map, hq, e]
          rfl
        · rw [List.getElem?_eq_none (by omega), List.getElem?_eq_none (by simp; omega)]
      refine ⟨_, D, p.reverse.map textPair, rfl, rfl, .inl (.of (by rw [← e3]; exact hD')), ?_, ?_⟩
      · have e3 : (" + " : Str).length = 3 := by decide +kernel
        rw [e3]
        refine join_fits (m := 30) (n := 4) (fun y hy => ?_) (by simp; exact hlen) (by decide)
        obtain ⟨z, hz, rfl⟩ := List.mem_map.mp hy
        have := hp.2 z (List.mem_reverse.mp hz)
        exact tp_len this.1 this.2.2
      · rw [join_eq]
        have e4 : textPoly p = Str.join " + " (p.reverse.map textPair) := by unfold textPoly; rw [if_neg h0]
        rw [e4] at q
        exact q _ (s0.trans s1)
def sp_number_from : Sp := fun vs H Q _ => ∃ n l : Nat, vs = [.str (num n), .int l] ∧ 1 ≤ n ∧ n ≤ 1000000000000 ∧ l ≤ n ∧ ∀ H', Same H H' → Q (.int n) H'
abbrev nn_number_from : List Str := ["text", "least", "number", "digit"]
theorem sc_number_from : FnScope nn_number_from ["text", "least"] d_number_from.scope := ⟨rfl, rfl, rfl, by decide +kernel, rfl, by decide +kernel, by decide +kernel⟩
theorem ok_number_from (T : Top w K mg) : OK P w K mg base 2 "number_from" ["text", "least"] sp_number_from := by
  refine Has.ok (d := d_number_from) (T.has 11 14 rfl rfl rfl rfl rfl) sc_number_from (fun _ _ _ _ _ _ us hl => match us, hl with | [_, _], _ => rfl) (by rintro _ _ _ _ ⟨_, _, rfl, _⟩; rfl) (fun f cdv A outer s H vs Q E hRm h => ?_)
  obtain ⟨n, l, rfl, hn, hn2, hln, q⟩ := h
  refine ⟨_, (pss_cons (ps_if (PW.pt (pw_or (pt_cmpR op_eq (pv 0) pe_str (nomark _)) (pw_or (pt_cmpR op_eq (pe_ix ixS (pv 0) pe_int (fun _ _ => rfl)) pe_str (nomark _)) (pw_or1 (pt_not (pt_val (pe_c (ok_is_word_of T) (hRm.mono (by decide)) (by rfl) (pa_cons (pv 0) (pa_cons (pe_gs (T.str 85) rfl) pa_nil))))))))) (pss_one (ps_ret pe_non)) pss_nil)
    (pss_cons (ps_set (i := 2) sc_number_from.nd rfl (.inl rfl) pe_int)
    (pss_cons (ps_for PassesOwn.never rfl (pi_str (pv 0)) (pg_name (i := 3) sc_number_from.nd rfl (.inl rfl)) (pss_one (ps_set (i := 2) sc_number_from.nd rfl (.inl rfl) (pe_op op_add (pe_op op_mul pe_int (pv 2)) (pe_callTy call_int_str (by rfl) (T.free 102) (by decide +kernel) (pa_cons (pv 3) pa_nil))))))
    (pss_one (ps_ret (pe_ifExp (pt_cmpR op_ge (pv 2) (pv 1) (nomark _)) (pv 2) pe_non)))))), ?_⟩
  have hlen := num_len hn2
  have hz : (num n).length ≤ sizeLine := Nat.le_trans hlen (by decide)
  obtain ⟨c, r, hc, hc1, hc2⟩ := numL_head n hn
  have htl : tl (num n) = c :: r := by rw [tl_n, hc]
  refine ⟨_, rfl, rfl, _, rfl, iteDf (vs_ne (num_ne n)) ?_⟩
  refine ⟨_, rfl, num n, 0, c, rfl, rfl, hz, by rw [htl]; rfl, rfl, _, rfl, iteDf (vs_ne (fun e => ?_)) ?_⟩
  · have := congrArg tl e
    rw [show tl ("0" : Str) = [48] by decide +kernel] at this
    have := (List.cons.inj (show [c] = [48] from this)).1
    omega
  refine ⟨_, rfl, _, _, rfl, fun d hd => dig_mem (numL_dig n d (by rw [← tl_n]; exact hd)), by omega, fun H1 s1 => ⟨true, rfl, iteF ?_⟩⟩
  refine ⟨_, rfl, num n, rfl, ?_⟩
  have hcs : (num n).cps.size = (numL n).length := by
    rw [← tl_n]
    exact (Array.length_toList).symm
  refine for_it walk_str (fun i σ H2 => Same H1 H2 ∧ ∃ d, σ = [some (.str (num n)), some (.int l), some (.int (((numL n).take i).foldl (fun (t : Int) (c : Nat) => t * 10 + ((c : Int) - 48)) 0)), d]) ⟨Same.refl _, _, rfl⟩ (fun _ _ _ _ _ => trivial) (fun i x σ H2 H3 hi hp hy => ?_) (fun σ H2 hp => ?_)
  · obtain ⟨s2, d, rfl⟩ := hp
    obtain ⟨rfl, e, he, rfl⟩ := hy
    have he2 : (numL n)[i]? = some e := by rw [← tl_n, ← he]; exact Array.getElem?_toList
    have hm : e ∈ numL n := List.mem_of_getElem? he2
    have hdg := numL_dig n e hm
    refine ⟨_, rfl, 10, _, rfl, rfl, .inl ⟨by decide, by decide⟩, _, rfl, _, _, rfl, int_dig hdg, by show 1 ≤ 640; decide, _, _, rfl, rfl, s2, some (.str ⟨#[e]⟩), ?_⟩
    rw [List.take_add_one, he2, List.foldl_append]
    simp only [List.set, List.foldl, Option.toList]
    rw [Int.mul_comm 10]
  · obtain ⟨s2, d, rfl⟩ := hp
    have e1 : ((numL n).take (num n).cps.size).foldl (fun (t : Int) (c : Nat) => t * 10 + ((c : Int) - 48)) 0 = (n : Int) := by
      rw [hcs, List.take_length]
      exact fold_num n
    rw [e1]
    refine ⟨_, rfl, _, rfl, _, _, rfl, rfl, _, rfl, iteDt (by omega) ⟨_, rfl, q _ (s1.trans s2)⟩⟩
def sp_pair_from : Sp := fun vs H Q _ => ∃ e c : Nat, vs = [.str (textPair (e, c))] ∧ e ≤ 3 ∧ 1 ≤ c ∧ c ≤ 1000000000000 ∧ ∀ p H', Same H H' → H' p = some (.tup [.int e, .int c]) → Q (.ref p) H'
abbrev nn_pair_from : List Str := ["text", "front", "letter", "back", "coefficient", "exponent"]
theorem sc_pair_from : FnScope nn_pair_from ["text"] d_pair_from.scope := ⟨rfl, rfl, rfl, by decide +kernel, rfl, by decide +kernel, by decide +kernel⟩
theorem ok_pair_from (T : Top w K mg) : OK P w K mg base 3 "pair_from" ["text"] sp_pair_from := by
  refine Has.ok (d := d_pair_from) (T.has 12 15 rfl rfl rfl rfl rfl) sc_pair_from (fun _ _ _ _ _ _ us hl => match us, hl with | [_], _ => rfl) (by rintro _ _ _ _ ⟨_, _, rfl, _⟩; rfl) (fun f cdv A outer s H vs Q E hRm h => ?_)
  obtain ⟨e, c, rfl, he, hc, hc2, q⟩ := h
  refine ⟨_, (pss_cons (ps_asg (pe_partition (pv 0) pe_str) (pg_tup rfl (pgs_cons (pg_name (i := 1) sc_pair_from.nd rfl (.inl rfl) (.inr rfl)) (pgs_cons (pg_name (i := 2) sc_pair_from.nd rfl (.inl rfl) (.inr rfl)) (pgs_cons (pg_name (i := 3) sc_pair_from.nd rfl (.inl rfl) (.inr rfl)) pgs_nil)))))
    (pss_cons (ps_asg (pe_tup (pa_cons pe_int (pa_cons pe_int pa_nil))) (pg_tup rfl (pgs_cons (pg_name (i := 4) sc_pair_from.nd rfl (.inl rfl) (.inr rfl)) (pgs_cons (pg_name (i := 5) sc_pair_from.nd rfl (.inl rfl) (.inr rfl)) pgs_nil))))
    (pss_cons (ps_if (pt_cmpR op_eq (pv 2) pe_str (nomark _)) (pss_one (ps_par (i := 4) (j := 5) rfl sc_pair_from.nd rfl rfl (by decide) rfl rfl (pa_cons (pe_c (ok_number_from T) (hRm.mono (by decide)) (by rfl) (pa_cons (pv 0) (pa_cons pe_int pa_nil))) (pa_cons pe_int pa_nil)) (by rfl))) (pss_cons (ps_if (pt_cmpR op_ne (pv 1) pe_str (nomark _)) (pss_one (ps_set (i := 4) sc_pair_from.nd rfl (.inl rfl) (pe_ifExp (pt_val (pe_m1 PySem.F.slot_str_endswith PySem.F.type_str_endswith mt_endswith (pv 1) pe_str)) (pe_c (ok_number_from T) (hRm.mono (by decide)) (by rfl) (pa_cons (pe_slice sl_str (pv 1) po_none (po_some (pe_un un_neg pe_int))) (pa_cons pe_int pa_nil))) pe_non))) pss_nil)
    (pss_one (ps_if (pt_cmpR op_ne (pv 3) pe_str (nomark _)) (pss_one (ps_set (i := 5) sc_pair_from.nd rfl (.inl rfl) (pe_ifExp (pt_val (pe_m1 PySem.F.slot_str_startswith PySem.F.type_str_startswith mt_startswith (pv 3) pe_str)) (pe_c (ok_number_from T) (hRm.mono (by decide)) (by rfl) (pa_cons (pe_slice sl_str (pv 3) (po_some pe_int) po_none) (pa_cons pe_int pa_nil))) pe_non))) pss_nil))))
    (pss_one (ps_ret (pe_ifExp (PW.pt (pw_or (pt_cmpR op_isN (pv 4) pe_non (nomark _)) (pw_or1 (pt_cmpR op_isN (pv 5) pe_non (nomark _))))) pe_non (pe_tup (pa_cons (pv 5) (pa_cons (pv 4) pa_nil))))))))), ?_⟩
  have hlen : (textPair (e, c)).length ≤ 30 := tp_len (q := (e, c)) he hc2
  have hz : (textPair (e, c)).length ≤ sizeLine := Nat.le_trans hlen (by decide)
  have e1 : tl ("n" : Str) = [110] := by decide +kernel
  -- the end, once both numbers are there
  refine ⟨_, rfl, ⟨_, rfl⟩, _, _, rfl, rfl, by decide +kernel, hz, fun t ht => ?_⟩
  refine ⟨t, _, rfl, .of upd_same, rfl, _, _, rfl, _, _, rfl, _, _, rfl, rfl, ?_⟩
  have st : Same H (upd H t (.tup [.str (Txt.partition (textPair (e, c)) "n").1, .str (Txt.partition (textPair (e, c)) "n").2.1, .str (Txt.partition (textPair (e, c)) "n").2.2])) := same_upd ht
  generalize upd H t (.tup [.str (Txt.partition (textPair (e, c)) "n").1, .str (Txt.partition (textPair (e, c)) "n").2.1, .str (Txt.partition (textPair (e, c)) "n").2.2]) = H0 at st ⊢
  refine ⟨by show 2 ≤ sizeLine; decide, fun t2 ht2 => ⟨t2, _, rfl, .of upd_same, rfl, _, _, rfl, _, _, rfl, rfl, ?_⟩⟩
  have st2 : Same H (upd H0 t2 (.tup [.int 1, .int 1])) := st.trans (same_upd ht2)
  generalize upd H0 t2 (.tup [.int 1, .int 1]) = H1 at st2 ⊢
  by_cases h0 : e = 0
  · subst h0
    have hp : Txt.partition (textPair (0, c)) "n" = (num c, Str.empty, Str.empty) := by
      rw [tp_zero]
      exact partition_none e1 (by rw [tl_n]; exact numL_free (.inr (by decide)))
    rw [hp]
    refine ⟨_, rfl, rfl, _, rfl, iteDt (by rw [emp_nil]) ?_⟩
    refine ⟨_, rfl, _, _, rfl, hc, hc2, hc, fun H2 s2 => ⟨_, _, rfl, ?_⟩⟩
    refine ⟨_, rfl, rfl, _, rfl, iteDf (by intro z; cases z) ⟨_, rfl, rfl, _, rfl, iteDf (by intro z; cases z) ?_⟩⟩
    exact ⟨_, rfl, _, rfl, by show 2 ≤ sizeLine; decide, fun p hp => q p _ ((st2.trans s2).trans (same_upd hp)) upd_same⟩
  · have hp : Txt.partition (textPair (e, c)) "n" = (tpF c, ("n" : Str), tpB e) := by
      rw [tp_pos c h0]
      exact partition_app e1 (tpF_free (.inr (by decide)))
    rw [hp]
    refine ⟨_, rfl, rfl, _, rfl, iteDf (vs_ne (fun z => by have := congrArg tl z; rw [e1] at this; cases this)) ?_⟩
    have s1 : (tl ("*" : Str)).length = 1 := by decide +kernel
    have s2 : (tl ("^" : Str)).length = 1 := by decide +kernel
    have n1 : tl ("*" : Str) ≠ [] := by decide +kernel
    have n2 : tl ("^" : Str) ≠ [] := by decide +kernel
    have fl : (tpF c).length ≤ sizeLine ∧ (tpB e).length ≤ sizeLine := by
      rw [tp_pos c h0, s_len, s_len] at hz
      exact ⟨by omega, by omega⟩
    by_cases h1 : c = 1
    · have f1 : tpF c = ("" : Str) := if_pos h1
      rw [f1]
      refine ⟨_, rfl, rfl, _, rfl, iteNf rfl ?_⟩
      by_cases h2 : e = 1
      · have f2 : tpB e = ("" : Str) := if_pos h2
        rw [f2]
        refine ⟨_, rfl, rfl, _, rfl, iteNf rfl ?_⟩
        refine ⟨_, rfl, rfl, _, rfl, iteDf (by intro z; cases z) ⟨_, rfl, rfl, _, rfl, iteDf (by intro z; cases z) ?_⟩⟩
        exact ⟨_, rfl, _, rfl, by show 2 ≤ sizeLine; decide, fun p hp => q p _ (st2.trans (same_upd hp)) (by rw [h1, h2]; exact upd_same)⟩
      · have f2 : tpB e = ("^" : Str) ++ num e := if_neg h2
        rw [f2] at fl ⊢
        refine ⟨_, rfl, rfl, _, rfl, iteNt (vs_ne (fun z => by have := congrArg tl z; rw [tl_append] at this; exact n2 (List.append_eq_nil_iff.mp this).1)) ?_⟩
        refine ⟨_, rfl, ⟨_, rfl⟩, _, _, rfl, rfl, _, rfl, ?_⟩
        rw [starts_app _ _ n2]
        refine iteT ⟨_, rfl, 1, rfl, _, rfl, fl.2, e, 2, by rw [cut_one_app _ _ s2]; rfl, by omega, by omega, by omega, fun H2 s3 => ?_⟩
        refine ⟨_, rfl, rfl, _, rfl, iteDf (by intro z; cases z) ⟨_, rfl, rfl, _, rfl, iteDf (by intro z; cases z) ?_⟩⟩
        exact ⟨_, rfl, _, rfl, by show 2 ≤ sizeLine; decide, fun p hp => q p _ ((st2.trans s3).trans (same_upd hp)) (by rw [h1]; exact upd_same)⟩
    · have f1 : tpF c = num c ++ ("*" : Str) := if_neg h1
      rw [f1] at fl ⊢
      refine ⟨_, rfl, rfl, _, rfl, iteNt (vs_ne (fun z => by have := congrArg tl z; rw [tl_append] at this; exact n1 (List.append_eq_nil_iff.mp this).2)) ?_⟩
      refine ⟨_, rfl, ⟨_, rfl⟩, _, _, rfl, rfl, _, rfl, ?_⟩
      rw [ends_app _ _ n1]
      refine iteT ⟨_, rfl, 1, rfl, -1, rfl, _, rfl, fl.1, c, 2, by rw [cut_last_app _ _ s1]; rfl, by omega, by omega, by omega, fun H2 s3 => ?_⟩
      by_cases h2 : e = 1
      · have f2 : tpB e = ("" : Str) := if_pos h2
        rw [f2]
        refine ⟨_, rfl, rfl, _, rfl, iteNf rfl ?_⟩
        refine ⟨_, rfl, rfl, _, rfl, iteDf (by intro z; cases z) ⟨_, rfl, rfl, _, rfl, iteDf (by intro z; cases z) ?_⟩⟩
        exact ⟨_, rfl, _, rfl, by show 2 ≤ sizeLine; decide, fun p hp => q p _ ((st2.trans s3).trans (same_upd hp)) (by rw [h2]; exact upd_same)⟩
      · have f2 : tpB e = ("^" : Str) ++ num e := if_neg h2
        rw [f2] at fl ⊢
        refine ⟨_, rfl, rfl, _, rfl, iteNt (vs_ne (fun z => by have := congrArg tl z; rw [tl_append] at this; exact n2 (List.append_eq_nil_iff.mp this).1)) ?_⟩
        refine ⟨_, rfl, ⟨_, rfl⟩, _, _, rfl, rfl, _, rfl, ?_⟩
        rw [starts_app _ _ n2]
        refine iteT ⟨_, rfl, 1, rfl, _, rfl, fl.2, e, 2, by rw [cut_one_app _ _ s2]; rfl, by omega, by omega, by omega, fun H3 s4 => ?_⟩
        refine ⟨_, rfl, rfl, _, rfl, iteDf (by intro z; cases z) ⟨_, rfl, rfl, _, rfl, iteDf (by intro z; cases z) ?_⟩⟩
        exact ⟨_, rfl, _, rfl, by show 2 ≤ sizeLine; decide, fun p hp => q p _ (((st2.trans s3).trans s4).trans (same_upd hp)) upd_same⟩
def sp_poly_with_text : Sp := fun vs H Q _ => ∃ p : Poly, vs = [.str (textPoly p)] ∧ PolyOk p ∧ ∀ v H', Same H H' → Rp H' (encP p) v → v ≠ .non → Q v H'
abbrev nn_poly_with_text : List Str := ["text", "poly", "item"]
theorem sc_poly_with_text : FnScope nn_poly_with_text ["text"] d_poly_with_text.scope := ⟨rfl, rfl, rfl, by decide +kernel, rfl, by decide +kernel, by decide +kernel⟩
theorem ok_poly_with_text (T : Top w K mg) : OK P w K mg base 4 "poly_with_text" ["text"] sp_poly_with_text := by
  refine Has.ok (d := d_poly_with_text) (T.has 13 16 rfl rfl rfl rfl rfl) sc_poly_with_text (fun _ _ _ _ _ _ us hl => match us, hl with | [_], _ => rfl) (by rintro _ _ _ _ ⟨_, rfl, _⟩; rfl) (fun f cdv A outer s H vs Q E hRm h => ?_)
  obtain ⟨p, rfl, hp, q⟩ := h
  refine ⟨_, (pss_cons (ps_if (pt_cmpR op_eq (pv 0) pe_str (nomark _)) (pss_one (ps_ret (pe_tup pa_nil))) pss_nil)
    (pss_cons (ps_set (i := 1) sc_poly_with_text.nd rfl (.inl rfl) (pe_callTy tupL (by rfl) (T.free 97) (by decide +kernel) (pa_cons (pe_lc (own := [("item", 2)]) rfl sc_poly_with_text.nd (RT.pi_revA (by rfl) (T.free 95) (pe_split (pv 0) pe_str)) (blkOk_by (N := nn_poly_with_text) (sc := d_poly_with_text.scope) (by decide +kernel)) (fun _ _ _ _ _ => (pg_name (i := 2) sc_poly_with_text.nd rfl (.inl rfl))) (fun _ _ _ _ _ => pts_nil) (fun _ _ _ _ _ => (pe_c (ok_pair_from T) (hRm.mono (by decide)) (by rfl) (pa_cons (pv 2) pa_nil)))) pa_nil)))
    (pss_one (ps_ret (pe_ifExp (pt_val (pe_c (ok_is_poly_value T) (hRm.mono (by decide)) (by rfl) (pa_cons (pv 1) pa_nil))) (pv 1) pe_non))))), ?_⟩
  refine ⟨_, rfl, rfl, _, rfl, ?_⟩
  by_cases h0 : p = []
  · refine iteDt (by rw [(tpoly_zero hp).mpr h0]) ⟨by show 0 ≤ sizeLine; decide, fun t ht => q _ _ (same_upd ht) ⟨t, [], rfl, upd_same, by rw [h0]; rfl⟩ (by intro z; cases z)⟩
  · refine iteDf (vs_ne fun z => h0 ((tpoly_zero hp).mp z)) ?_
    have hz : (textPoly p).length + 2 ≤ sizeLine := Nat.le_trans (Nat.add_le_add_right (tpoly_len hp) 2) (by decide)
    refine ⟨_, rfl, ⟨_, rfl⟩, _, _, rfl, rfl, by decide +kernel, hz, fun t ht => ?_⟩
    have s0 : Same H (upd H t (.lst ((Txt.split (textPoly p) " + ").map V.str))) := same_upd ht
    have ht2 : (upd H t (.lst ((Txt.split (textPoly p) " + ").map V.str))) t = some (.lst ((Txt.split (textPoly p) " + ").map V.str)) := upd_same
    generalize upd H t (.lst ((Txt.split (textPoly p) " + ").map V.str)) = H1 at s0 ht2 ⊢
    rw [tp_split p h0] at ht2
    have hl : ((p.reverse.map textPair).map V.str).length = p.length := by simp
    have hlen := hp.len
    refine ⟨t, (p.reverse.map textPair).map V.str, rfl, .inl ⟨.of ht2, fun D hD => ?_⟩⟩
    refine lc_map walk_rev hD (by omega) (fun H' s1 => .of (s1 _ _ ht2)) (fun i y H => ∃ q, p[i]? = some q ∧ ∃ b : Addr, y = .ref b ∧ H b = some (.tup [.int q.1, .int q.2])) (fun i y H H' ⟨q, h1, b, h2, h3⟩ k => ⟨q, h1, b, h2, k _ _ h3⟩) (fun i x H2 H3 hi s1 hy C k => ?_) fun ys H' hn s1 hD' hr => ?_
    · obtain ⟨rfl, hy⟩ := hy
      rw [hl] at hy hi
      have e2 : p.length - 1 - i < p.reverse.length := by rw [List.length_reverse]; omega
      have e3 : p.reverse[p.length - 1 - i]? = some p[i] := by
        rw [List.getElem?_reverse (by omega), show p.length - 1 - (p.length - 1 - i) = i by omega]
        exact List.getElem?_eq_getElem hi
      rw [List.getElem?_map, List.getElem?_map, e3] at hy
      have ex : V.str (textPair p[i]) = x := Option.some.inj hy
      subst ex
      have hq := hp.2 p[i] (List.getElem_mem hi)
      refine ⟨rfl, _, rfl, p[i].1, p[i].2, rfl, hq.1, hq.2.1, hq.2.2, fun b H4 s4 hb => k _ _ s4 ⟨p[i], List.getElem?_eq_getElem hi, b, rfl, hb⟩⟩
    · rw [hl] at hn
      refine ⟨D, ys, rfl, hD', fun l hl2 => ?_⟩
      have tk : TK H' (upd H' l (.tup ys)) := same_tk (same_upd hl2)
      have rp : Rp (upd H' l (.tup ys)) (encP p) (.ref l) := by
        refine Rp.new hl2 (RpL.of (by simp [hn]) fun i d x h1 h2 => ?_)
        obtain ⟨q, h3, b, rfl, h5⟩ := hr i x h2
        rw [List.getElem?_map, h3] at h1
        cases h1
        exact ⟨b, _, rfl, h5, ⟨_, _, rfl, rfl, _, _, rfl, rfl, rfl⟩⟩
      have s5 : Same H (upd H' l (.tup ys)) := (s0.trans s1).trans (same_upd hl2)
      exact ⟨_, rfl, p, _, rfl, rp, hp, fun H6 s6 => ⟨true, rfl, iteT ⟨_, rfl, q _ _ (s5.trans s6) (rp.same s6) (by intro z; cases z)⟩⟩⟩
end
end NP
/-! NPShape -/
namespace NP
open PySem PySem.Spec PyProof.Rows L2 TL
section
variable {P : Program} {w : World} {K : PySem.W.Frag} {mg : Str → Option Value} {base : Heap}
theorem name_facts (z : Str) (h : Nm z) : (∀ c ∈ tl z, c ∈ tl "abcdefghijklmnopqrstuvwxyz0123456789_") ∧ 1 ≤ z.length ∧ z.length ≤ 12 ∧ (∃ c, (tl z)[0]? = some c ∧ c ∈ tl "abcdefghijklmnopqrstuvwxyz") ∧ z ∉ kwL := by
  have h1 : ∀ z ∈ allNames, (∀ c ∈ tl z, c ∈ tl "abcdefghijklmnopqrstuvwxyz0123456789_") ∧ 1 ≤ z.length ∧ z.length ≤ 12 ∧ (tl z).headD 0 ∈ tl "abcdefghijklmnopqrstuvwxyz" ∧ z ∉ kwL := by decide +kernel
  obtain ⟨a, b, c, d, e⟩ := h1 z h
  refine ⟨a, b, c, ?_, e⟩
  rw [len_tl] at b
  match hz : tl z, b with
  | x :: r, _ =>
    rw [hz] at d
    exact ⟨x, rfl, d⟩
def sp_is_name_value : Sp := fun vs H Q _ => ∃ z : Str, vs = [.str z] ∧ Nm z ∧ ∀ H', Same H H' → Q (.bl true) H'
abbrev nn_is_name_value : List Str := ["thing"]
theorem sc_is_name_value : FnScope nn_is_name_value ["thing"] d_is_name_value.scope := ⟨rfl, rfl, rfl, by decide +kernel, rfl, by decide +kernel, by decide +kernel⟩
theorem ok_is_name_value (T : Top w K mg) : OK P w K mg base 2 "is_name_value" ["thing"] sp_is_name_value := by
  refine Has.ok (d := d_is_name_value) (T.has 14 20 rfl rfl rfl rfl rfl) sc_is_name_value (fun _ _ _ _ _ _ us hl => match us, hl with | [_], _ => rfl) (by rintro _ _ _ _ ⟨_, rfl, _⟩; rfl) (fun f cdv A outer s H vs Q E hRm h => ?_)
  obtain ⟨z, rfl, hz, q⟩ := h
  obtain ⟨h1, h2, h3, ⟨c, h4, h5⟩, h6⟩ := name_facts z hz
  have hs : z.length ≤ sizeLine := Nat.le_trans h3 (by decide)
  refine ⟨_, (pss_cons (ps_if (PW.pt (pw_or (pt_not (pt_val (pe_c (ok_is_word_of T) (hRm.mono (by decide)) (by rfl) (pa_cons (pv 0) (pa_cons (pe_gs (T.str 87) rfl) pa_nil))))) (pw_or1 (pt_not (pt_chain op_le op_le pe_int (pe_callB call_len_str (by rfl) (T.free 92) (by decide +kernel) (pa_cons (pv 0) pa_nil)) (pe_gi (T.int 86) rfl)))))) (pss_one (ps_ret pe_bl)) pss_nil)
    (pss_one (ps_ret (pe_and (pe_cmpR op_in_sign (pe_ix ixS (pv 0) pe_int (fun _ _ => rfl)) (pe_gs (T.str 84) rfl) (by rfl)) (pe_one (pe_cmpR op_notIn_seq (pv 0) (pe_gr (T.glo 17) rfl) (by rfl))))))), ?_⟩
  refine ⟨_, rfl, z, _, rfl, h1, by omega, fun H1 s1 => ⟨true, rfl, iteF ?_⟩⟩
  refine ⟨_, rfl, z, rfl, hs, _, _, rfl, rfl, _, rfl, iteDt (by omega) ⟨_, _, rfl, rfl, _, rfl, iteNf (by omega) ?_⟩⟩
  refine ⟨_, rfl, z, 0, c, rfl, rfl, hs, h4, c, _, rfl, rfl, true, by rw [decide_eq_true h5], iteT ⟨_, rfl, _, _, rfl, .inr (T.kwd _), rfl, by rw [kwds_eq]; exact flat_strs _, ?_⟩⟩
  rw [kwds_eq, inV_strs, decide_eq_false h6]
  exact q _ s1
def sp_has_word : Sp := fun vs H Q _ => ∃ (a : Addr) (z : Str) (xs : List V), vs = [.ref a] ∧ H a = some (.tup (.str z :: xs)) ∧ ∀ H', Same H H' → Q (.bl true) H'
abbrev nn_has_word : List Str := ["thing"]
theorem sc_has_word : FnScope nn_has_word ["thing"] d_has_word.scope := ⟨rfl, rfl, rfl, by decide +kernel, rfl, by decide +kernel, by decide +kernel⟩
theorem ok_has_word (T : Top w K mg) : OK P w K mg base 1 "has_word" ["thing"] sp_has_word := by
  refine Has.ok (d := d_has_word) (T.has 15 21 rfl rfl rfl rfl rfl) sc_has_word (fun _ _ _ _ _ _ us hl => match us, hl with | [_], _ => rfl) (by rintro _ _ _ _ ⟨_, _, _, rfl, _⟩; rfl) (fun f cdv A outer s H vs Q E hRm h => ?_)
  obtain ⟨a, z, xs, rfl, ha, q⟩ := h
  refine ⟨_, (pss_one (ps_ret (pe_and (pe_callB isSame (by rfl) (T.free 91) (by decide +kernel) (pa_cons (pv 0) (pa_cons (pe_bltn (v := .ty "tuple") rfl (T.free 97) (by decide +kernel) rfl) pa_nil))) (pe_and (pe_cmpR (op_neNilT hRm.units0) (pv 0) (pe_tup pa_nil) (nomark _)) (pe_one (pe_callB isSame (by rfl) (T.free 91) (by decide +kernel) (pa_cons (pe_ix ixT (pv 0) pe_int (fun _ _ => rfl)) (pa_cons (pe_bltn (v := .ty "str") rfl (T.free 101) (by decide +kernel) rfl) pa_nil)))))))), ?_⟩
  refine ⟨_, rfl, _, _, rfl, .tup ha, true, rfl, iteT ⟨_, rfl, by show 0 ≤ sizeLine; decide, fun t ht => ?_⟩⟩
  have ha1 := same_upd (o := .tup []) ht _ _ ha
  exact ⟨a, t, _, rfl, rfl, .of ha1, .of upd_same, true, rfl, iteT ⟨_, rfl, a, _, 0, _, rfl, rfl, ha1, rfl, _, _, rfl, .str z, q _ (same_upd ht)⟩⟩
def sp_is_part : Sp := fun vs H Q _ => ∃ k z : Str, vs = [.str k, .str z] ∧ PartOk k z ∧ ∀ H', Same H H' → Q (.bl true) H'
abbrev nn_is_part : List Str := ["kind", "thing"]
theorem sc_is_part : FnScope nn_is_part ["kind", "thing"] d_is_part.scope := ⟨rfl, rfl, rfl, by decide +kernel, rfl, by decide +kernel, by decide +kernel⟩
theorem ok_is_part (T : Top w K mg) : OK P w K mg base 4 "is_part" ["kind", "thing"] sp_is_part := by
  refine Has.ok (d := d_is_part) (T.has 16 22 rfl rfl rfl rfl rfl) sc_is_part (fun _ _ _ _ _ _ us hl => match us, hl with | [_, _], _ => rfl) (by rintro _ _ _ _ ⟨_, _, rfl, _⟩; rfl) (fun f cdv A outer s H vs Q E hRm h => ?_)
  obtain ⟨k, z, rfl, hk, q⟩ := h
  refine ⟨_, (pss_cons (ps_if (pt_cmpR op_eq (pv 0) pe_str (nomark _)) (pss_one (ps_ret (pe_c (ok_is_letter T) (hRm.mono (by decide)) (by rfl) (pa_cons (pv 1) pa_nil)))) pss_nil)
    (pss_cons (ps_if (pt_cmpR op_eq (pv 0) pe_str (nomark _)) (pss_one (ps_ret (pe_c (ok_is_ascending_letters T) (hRm.mono (by decide)) (by rfl) (pa_cons (pv 1) pa_nil)))) pss_nil)
    (pss_cons (ps_if (pt_cmpR op_eq (pv 0) pe_str (nomark _)) (pss_one (ps_ret (pe_c (ok_is_player T) (hRm.mono (by decide)) (by rfl) (pa_cons (pv 1) pa_nil)))) pss_nil)
    (pss_one (ps_ret (pe_c (ok_is_name_value T) (hRm.mono (by decide)) (by rfl) (pa_cons (pv 1) pa_nil))))))), ?_⟩
  unfold PartOk at hk
  refine ⟨_, rfl, rfl, _, rfl, ?_⟩
  by_cases h1 : k = "letter"
  · rw [if_pos h1] at hk
    exact iteDt (by rw [h1]) ⟨_, rfl, z, rfl, hk, q⟩
  rw [if_neg h1] at hk
  refine iteDf (vs_ne h1) ⟨_, rfl, rfl, _, rfl, ?_⟩
  by_cases h2 : k = "letters"
  · rw [if_pos h2] at hk
    exact iteDt (by rw [h2]) ⟨_, rfl, z, rfl, hk, q⟩
  rw [if_neg h2] at hk
  refine iteDf (vs_ne h2) ⟨_, rfl, rfl, _, rfl, ?_⟩
  by_cases h3 : k = "player"
  · rw [if_pos h3] at hk
    exact iteDt (by rw [h3]) ⟨_, rfl, z, rfl, hk, q⟩
  rw [if_neg h3] at hk
  exact iteDf (vs_ne h3) ⟨_, rfl, z, rfl, hk, q⟩
def sp_has_parts (K : PySem.W.Frag) : Sp := fun vs H Q _ => ∃ (a b : Addr) (x : Str) (zs ks : List Str), vs = [.ref a, .ref b] ∧ H a = some (.tup (.str x :: zs.map V.str)) ∧ (∀ H', SqT K H' b (ks.map V.str)) ∧ Parts ks zs ∧ ks.length ≤ 4 ∧ ∀ H', Same H H' → Q (.bl true) H'
abbrev nn_has_parts : List Str := ["thing", "kinds", "kind", "part"]
theorem sc_has_parts : FnScope nn_has_parts ["thing", "kinds"] d_has_parts.scope := ⟨rfl, rfl, rfl, by decide +kernel, rfl, by decide +kernel, by decide +kernel⟩
theorem ok_has_parts (T : Top w K mg) : OK P w K mg base 5 "has_parts" ["thing", "kinds"] (sp_has_parts K) := by
  refine Has.ok (d := d_has_parts) (T.has 17 23 rfl rfl rfl rfl rfl) sc_has_parts (fun _ _ _ _ _ _ us hl => match us, hl with | [_, _], _ => rfl) (by rintro _ _ _ _ ⟨_, _, _, _, _, rfl, _⟩; rfl) (fun f cdv A outer s H vs Q E hRm h => ?_)
  obtain ⟨a, b, x, zs, ks, rfl, ha, hb, hp, hk, q⟩ := h
  refine ⟨_, (pss_cons (ps_if (pt_cmpR op_ne (pe_callB lenA (by rfl) (T.free 92) (by decide +kernel) (pa_cons (pv 0) pa_nil)) (pe_op op_add (pe_callB call_len_seq (by rfl) (T.free 92) (by decide +kernel) (pa_cons (pv 1) pa_nil)) pe_int) (nomark _)) (pss_one (ps_ret pe_bl)) pss_nil)
    (pss_one (ps_ret (pe_callB (cr_all rfl) (by rfl) (T.free 93) (by decide +kernel) (pa_cons (pe_lc (own := [("kind", 2), ("part", 3)]) (g := gTup K 2 (gCons (gName 2) (gCons (gName 3) gNil))) rfl sc_has_parts.nd (RZ.pi_zipA (by rfl) (T.free 94) (pa_cons (pv 1) (pa_cons (pe_slice slT (pv 0) (po_some pe_int) po_none) pa_nil))) (blkOk_by (N := nn_has_parts) (sc := d_has_parts.scope) (by decide +kernel)) (fun _ _ _ _ _ => (pg_tup rfl (pgs_cons (pg_name (i := 2) sc_has_parts.nd rfl (.inl rfl) (.inr rfl)) (pgs_cons (pg_name (i := 3) sc_has_parts.nd rfl (.inl rfl) (.inr rfl)) pgs_nil)))) (fun _ _ _ _ _ => pts_nil) (fun _ _ _ _ _ => (pe_c (ok_is_part T) (hRm.mono (by decide)) (by rfl) (pa_cons (pv 2) (pa_cons (pv 3) pa_nil))))) pa_nil))))), ?_⟩
  have hl := hp.len
  refine ⟨_, rfl, a, _, rfl, .inl ha, _, rfl, b, _, rfl, .inr (hb _), _, _, rfl, rfl, rfl, _, rfl, iteNf (by simp [hl]) ?_⟩
  refine ⟨_, rfl, _, rfl, 1, rfl, a, _, rfl, ha, fun a2 H2 s2 ha2 => ?_⟩
  rw [cutV_one] at ha2
  have ha2 : H2 a2 = some (.tup (zs.map V.str)) := ha2
  refine ⟨b, a2, ks.map V.str, zs.map V.str, rfl, .inr ⟨hb _, .of ha2, ?_⟩⟩
  refine lc_all (walk_zipT rfl) (by simp; omega) (fun H' s3 => ⟨hb _, .of (s3 _ _ ha2)⟩) (fun i v H3 H4 hi s3 hy C k => ?_) fun D H3 bs s3 e eb => ⟨D, bs, rfl, .of e, by rw [eb]; exact q H3 (s2.trans s3)⟩
  obtain ⟨t, y1, y2, rfl, hT, rfl, h1, h2⟩ := hy
  have h1 : (ks.map V.str)[i]? = some y1 := h1
  have h2 : (zs.map V.str)[i]? = some y2 := h2
  rw [List.getElem?_map] at h1 h2
  obtain ⟨k', e1, rfl⟩ := Option.map_eq_some_iff.mp h1
  obtain ⟨z', e2, rfl⟩ := Option.map_eq_some_iff.mp h2
  exact ⟨t, _, rfl, .of upd_same, rfl, _, _, rfl, _, _, rfl, rfl, rfl, _, rfl, _, rfl, k', z', rfl, hp.get e1 e2, fun H5 s5 => k _ ((same_upd hT).trans s5)⟩
end
end NP
/-! NPShape2 -/
namespace NP
open PySem PySem.Spec PyProof.Rows L2 TL
theorem Rp.ws {H : Hp} {ws : List Str} {v : V} (h : Rp H (encWs ws) v) : ∃ a, v = .ref a ∧ H a = some (.tup (ws.map V.str)) := by
  obtain ⟨a, xs, e, ha, r⟩ := h
  exact ⟨a, e, by rw [ha, RpL.strs r]⟩
theorem Rp.no {H : Hp} {t : Tst} {v : V} (h : Rp H (Tst.no t).enc v) : ∃ a u, v = .ref a ∧ H a = some (.tup [.str "not", u]) ∧ Rp H t.enc u := by
  obtain ⟨a, xs, e, ha, v1, r1, e1, h1, v2, r2, e2, h2, h3⟩ := h
  cases h3
  rw [e1, e2, show v1 = _ from h1] at ha
  exact ⟨a, v2, e, ha, h2⟩
theorem Rp.rep {H : Hp} {p : Poly} {cs : List Cmd} {v : V} (h : Rp H (Cmd.re p cs).enc v) : ∃ (a : Addr) (u : V) (b : Addr) (xs : List V), v = .ref a ∧ H a = some (.tup [.str "repeat", u, .ref b]) ∧ Rp H (encP p) u ∧ H b = some (.tup xs) ∧ RpL H (encs cs) xs := by
  unfold Cmd.enc at h
  obtain ⟨a, xs, e, ha, v1, r1, e1, h1, v2, r2, e2, h2, v3, r3, e3, ⟨b, ys, eb, hb, hr⟩, h4⟩ := h
  cases h4
  rw [e1, e2, e3, show v1 = _ from h1, eb] at ha
  exact ⟨a, v2, b, ys, e, ha, h2, hb, hr⟩
theorem Rp.ifc {H : Hp} {t : Tst} {cs os : List Cmd} {v : V} (h : Rp H (Cmd.if_ t cs os).enc v) : ∃ (a : Addr) (u : V) (b c : Addr) (xs ys : List V), v = .ref a ∧ H a = some (.tup [.str "if", u, .ref b, .ref c]) ∧ Rp H t.enc u ∧ H b = some (.tup xs) ∧ RpL H (encs cs) xs ∧ H c = some (.tup ys) ∧ RpL H (encs os) ys := by
  unfold Cmd.enc at h
  obtain ⟨a, xs, e, ha, v1, r1, e1, h1, v2, r2, e2, h2, v3, r3, e3, ⟨b, ys, eb, hb, hr⟩, v4, r4, e4, ⟨c, zs, ec, hc, hrc⟩, h5⟩ := h
  cases h5
  rw [e1, e2, e3, e4, show v1 = _ from h1, eb, ec] at ha
  exact ⟨a, v2, b, c, ys, zs, e, ha, h2, hb, hr, hc, hrc⟩
theorem Rp.head2 {H : Hp} {h : Str × Poly} {v : V} (r : Rp H (encH h) v) : ∃ a u, v = .ref a ∧ H a = some (.tup [.str h.1, u]) ∧ Rp H (encP h.2) u := by
  obtain ⟨a, xs, e, ha, v1, r1, e1, h1, v2, r2, e2, h2, h3⟩ := r
  cases h3
  rw [e1, e2, show v1 = _ from h1] at ha
  exact ⟨a, v2, e, ha, h2⟩
theorem Rp.proc {H : Hp} {h : Str × List Cmd} {v : V} (r : Rp H (encR h) v) : ∃ (a b : Addr) (xs : List V), v = .ref a ∧ H a = some (.tup [.str h.1, .ref b]) ∧ H b = some (.tup xs) ∧ RpL H (encs h.2) xs := by
  obtain ⟨a, xs, e, ha, v1, r1, e1, h1, v2, r2, e2, ⟨b, ys, eb, hb, hr⟩, h3⟩ := r
  cases h3
  rw [e1, e2, show v1 = _ from h1, eb] at ha
  exact ⟨a, b, ys, e, ha, hb, hr⟩
theorem Rp.scr {H : Hp} {s : Scr} {v : V} (r : Rp H s.enc v) : ∃ (a b c d : Addr) (xs ys zs : List V), v = .ref a ∧ H a = some (.tup [.ref b, .ref c, .ref d]) ∧ H b = some (.tup xs) ∧ RpL H (s.tapes.map encH) xs ∧ H c = some (.tup ys) ∧ RpL H (s.idx.map encH) ys ∧ H d = some (.tup zs) ∧ RpL H (s.procs.map encR) zs := by
  obtain ⟨a, xs, e, ha, v1, r1, e1, ⟨b, x1, eb, hb, hrb⟩, v2, r2, e2, ⟨c, x2, ec, hc, hrc⟩, v3, r3, e3, ⟨d, x3, ed, hd, hrd⟩, h3⟩ := r
  cases h3
  rw [e1, e2, e3, eb, ec, ed] at ha
  exact ⟨a, b, c, d, x1, x2, x3, e, ha, hb, hrb, hc, hrc, hd, hrd⟩
section
variable {P : Program} {w : World} {K : PySem.W.Frag} {mg : Str → Option Value} {base : Heap}
theorem Pl.kinds_len (p : Pl) : p.kinds.length ≤ 4 := by cases p <;> simp [Pl.kinds]
theorem Si.kinds_len (p : Si) : p.kinds.length ≤ 4 := by cases p <;> simp [Si.kinds]
theorem Pl.not2 (p : Pl) : (p.ws.map V.str).length ≠ 2 := by cases p <;> simp [Pl.ws]
def sp_is_test_value : Sp := fun vs H Q _ => ∃ (t : Tst) (v : V), vs = [v] ∧ Rp H t.enc v ∧ t.fit ∧ ∀ H', Same H H' → v ≠ .non → Q (.bl true) H'
abbrev nn_is_test_value : List Str := ["thing"]
theorem sc_is_test_value : FnScope nn_is_test_value ["thing"] d_is_test_value.scope := ⟨rfl, rfl, rfl, by decide +kernel, rfl, by decide +kernel, by decide +kernel⟩
theorem ok_is_test_value (T : Top w K mg) : OK P w K mg base 6 "is_test_value" ["thing"] sp_is_test_value := by
  refine Has.ok (d := d_is_test_value) (T.has 18 24 rfl rfl rfl rfl rfl) sc_is_test_value (fun _ _ _ _ _ _ us hl => match us, hl with | [_], _ => rfl) (by rintro _ _ _ _ ⟨_, _, rfl, _⟩; rfl) (fun f cdv A outer s H vs Q E hRm h => ?_)
  obtain ⟨t, v, rfl, hv, hf, q⟩ := h
  obtain ⟨es, n, kd_TEST_PARTS⟩ := T.tab 0
  have nn : v ≠ .non := by
    rintro rfl
    cases t <;> (obtain ⟨a, xs, e, _⟩ := hv; cases e)
  refine ⟨_, (pss_cons (ps_while PassesOwn.never (PW.pt (pw_and (pt_val (pe_c (ok_is_tuple T) (hRm.mono (by decide)) (by rfl) (pa_cons (pv 0) (pa_cons pe_int pa_nil)))) (pw_and1 (pt_cmpR op_eq (pe_ix ixT (pv 0) pe_int (fun _ _ => rfl)) pe_str (nomark _))))) (pss_one (ps_set (i := 0) sc_is_test_value.nd rfl (.inl rfl) (pe_ix ixT (pv 0) pe_int (fun _ _ => rfl)))))
    (pss_one (ps_ret (pe_and (pe_c (ok_has_word T) (hRm.mono (by decide)) (by rfl) (pa_cons (pv 0) pa_nil)) (pe_and (pe_cmpR (op_in_kd kd_TEST_PARTS) (pe_ix ixT (pv 0) pe_int (fun _ _ => rfl)) (pe_gr (T.glo 18) rfl) (by rfl)) (pe_one (pe_c (ok_has_parts T) (hRm.mono (by decide)) (by rfl) (pa_cons (pv 0) (pa_cons (pe_ix ix_kdict (pe_gr (T.glo 18) rfl) (pe_ix ixT (pv 0) pe_int (fun _ _ => rfl)) (fun _ _ => rfl)) pa_nil))))))))), ?_⟩
  refine ⟨fun m σ H' => Same H H' ∧ ∃ (u : V) (t' : Tst), σ = [some u] ∧ Rp H' t'.enc u ∧ t'.base = t.base ∧ t'.nots = m, ⟨_, .refl _, v, t, rfl, hv, rfl, rfl⟩, fun m σ H1 hp => ?_⟩
  obtain ⟨s1, u, t', rfl, hu, hb, hm⟩ := hp
  cases t' with
  | no t2 =>
    obtain ⟨a, u2, rfl, ha, hr⟩ := Rp.no hu
    refine ⟨_, rfl, a, _, _, rfl, ha, true, rfl, iteT ⟨_, rfl, a, _, 0, _, rfl, rfl, ha, rfl, rfl, _, rfl, iteDt rfl ⟨_, fun _ _ h => h, ?_⟩⟩⟩
    refine ⟨_, rfl, a, _, 1, _, rfl, rfl, ha, rfl, t2.nots, ?_, s1, u2, t2, rfl, hr, hb, rfl⟩
    rw [← hm]
    exact Nat.lt_succ_self _
  | pl p =>
    obtain ⟨a, rfl, ha⟩ := Rp.ws hu
    have ew : p.ws.map V.str = .str p.word :: p.args.map V.str := by rw [p.ws_eq]; rfl
    have hn2 := p.not2
    refine ⟨_, rfl, a, _, _, rfl, ha, false, by rw [decide_eq_false]; intro z; have := V.int.inj z; omega, iteF ?_⟩
    rw [ew] at ha
    refine ⟨_, rfl, a, _, _, rfl, ha, fun H2 s2 => ⟨true, rfl, iteT ?_⟩⟩
    have ha2 := s2 _ _ ha
    obtain ⟨k, hk, hks⟩ := tab_test T p
    refine ⟨_, rfl, a, _, 0, _, rfl, rfl, ha2, rfl, _, _, rfl, rfl, hk, true, rfl, iteT ?_⟩
    refine ⟨_, rfl, _, rfl, a, _, 0, _, rfl, rfl, ha2, rfl, _, _, .ref k, rfl, rfl, ⟨es, n, _, kd_TEST_PARTS.at_, kd_TEST_PARTS.lit, hk, rfl⟩, ?_⟩
    have hfp : p.fit := by
      have e : t.base = p := hb.symm
      rw [← e]
      exact hf.1
    refine ⟨a, k, _, p.args, p.kinds, rfl, ha2, hks, hfp, p.kinds_len, fun H3 s3 => q _ ((s1.trans s2).trans s3) nn⟩
def siWords : List Str := ["set", "copy", "clear", "zero", "up", "down", "same", "do", "choose", "wins"]
theorem Si.word_mem (s : Si) : s.word ∈ siWords := by cases s <;> simp [Si.word, siWords]
theorem Si.notif (s : Si) : s.word ≠ "if" ∧ s.word ≠ "repeat" := (by decide +kernel : ∀ z ∈ siWords, z ≠ "if" ∧ z ≠ "repeat") _ s.word_mem
def sp_inner_commands : Sp := fun vs H Q _ => ∃ (c : Cmd) (v : V), vs = [v] ∧ Rp H c.enc v ∧ c.fit ∧ c.cnt ≤ 1000 ∧ ∀ l xs H', Same H H' → H l = none → H' l = some (.lst xs) → RpL H' (encs c.inner) xs → Q (.ref l) H'
abbrev nn_inner_commands : List Str := ["thing", "word", "many", "fits"]
theorem sc_inner_commands : FnScope nn_inner_commands ["thing"] d_inner_commands.scope := ⟨rfl, rfl, rfl, by decide +kernel, rfl, by decide +kernel, by decide +kernel⟩
theorem ok_inner_commands (T : Top w K mg) : OK P w K mg base 7 "inner_commands" ["thing"] sp_inner_commands := by
  refine Has.ok (d := d_inner_commands) (T.has 19 25 rfl rfl rfl rfl rfl) sc_inner_commands (fun _ _ _ _ _ _ us hl => match us, hl with | [_], _ => rfl) (by rintro _ _ _ _ ⟨_, _, rfl, _⟩; rfl) (fun f cdv A outer s H vs Q E hRm h => ?_)
  obtain ⟨c, v, rfl, hv, hf, hcnt, q⟩ := h
  obtain ⟨es, n, kd_COMMAND_PARTS⟩ := T.tab 1
  refine ⟨_, (pss_cons (ps_if (pt_not (pt_val (pe_c (ok_has_word T) (hRm.mono (by decide)) (by rfl) (pa_cons (pv 0) pa_nil)))) (pss_one (ps_ret pe_non)) pss_nil)
    (pss_cons (ps_par (i := 1) (j := 2) rfl sc_inner_commands.nd rfl rfl (by decide) rfl rfl (pa_cons (pe_ix ixT (pv 0) pe_int (fun _ _ => rfl)) (pa_cons (pe_callB lenA (by rfl) (T.free 92) (by decide +kernel) (pa_cons (pv 0) pa_nil)) pa_nil)) (by rfl))
    (pss_cons (ps_if (pt_cmpR op_eq (pv 1) pe_str (nomark _)) (pss_cons (ps_set (i := 3) sc_inner_commands.nd rfl (.inl rfl) (pe_and (pe_cmpR op_eq (pv 2) pe_int (nomark _)) (pe_and (pe_c (ok_is_test_value T) (hRm.mono (by decide)) (by rfl) (pa_cons (pe_ix ixT (pv 0) pe_int (fun _ _ => rfl)) pa_nil)) (pe_and (pe_callB isSame (by rfl) (T.free 91) (by decide +kernel) (pa_cons (pe_ix ixT (pv 0) pe_int (fun _ _ => rfl)) (pa_cons (pe_bltn (v := .ty "tuple") rfl (T.free 97) (by decide +kernel) rfl) pa_nil))) (pe_one (pe_callB isSame (by rfl) (T.free 91) (by decide +kernel) (pa_cons (pe_ix ixT (pv 0) pe_int (fun _ _ => rfl)) (pa_cons (pe_bltn (v := .ty "tuple") rfl (T.free 97) (by decide +kernel) rfl) pa_nil))))))))
    (pss_one (ps_ret (pe_ifExp (pt_val (pv 3)) (pe_callTy lstA (by rfl) (T.free 98) (by decide +kernel) (pa_cons (pe_op catT (pe_ix ixT (pv 0) pe_int (fun _ _ => rfl)) (pe_ix ixT (pv 0) pe_int (fun _ _ => rfl))) pa_nil)) pe_non)))) pss_nil)
    (pss_cons (ps_if (pt_cmpR op_eq (pv 1) pe_str (nomark _)) (pss_cons (ps_set (i := 3) sc_inner_commands.nd rfl (.inl rfl) (pe_and (pe_cmpR op_eq (pv 2) pe_int (nomark _)) (pe_and (pe_c (ok_is_poly_value T) (hRm.mono (by decide)) (by rfl) (pa_cons (pe_ix ixT (pv 0) pe_int (fun _ _ => rfl)) pa_nil)) (pe_one (pe_callB isSame (by rfl) (T.free 91) (by decide +kernel) (pa_cons (pe_ix ixT (pv 0) pe_int (fun _ _ => rfl)) (pa_cons (pe_bltn (v := .ty "tuple") rfl (T.free 97) (by decide +kernel) rfl) pa_nil)))))))
    (pss_one (ps_ret (pe_ifExp (pt_val (pv 3)) (pe_callTy lstA (by rfl) (T.free 98) (by decide +kernel) (pa_cons (pe_ix ixT (pv 0) pe_int (fun _ _ => rfl)) pa_nil)) pe_non)))) pss_nil)
    (pss_cons (ps_set (i := 3) sc_inner_commands.nd rfl (.inl rfl) (pe_and (pe_cmpR (op_in_kd kd_COMMAND_PARTS) (pv 1) (pe_gr (T.glo 19) rfl) (by rfl)) (pe_one (pe_c (ok_has_parts T) (hRm.mono (by decide)) (by rfl) (pa_cons (pv 0) (pa_cons (pe_ix ix_kdict (pe_gr (T.glo 19) rfl) (pv 1) (fun _ _ => rfl)) pa_nil))))))
    (pss_one (ps_ret (pe_ifExp (pt_val (pv 3)) (pe_lst pa_nil) pe_non)))))))), ?_⟩
  cases c with
  | si s =>
    have hv : Rp H (encWs s.ws) v := hv
    obtain ⟨a, rfl, ha⟩ := Rp.ws hv
    have ew : s.ws.map V.str = .str s.word :: s.args.map V.str := by rw [s.ws_eq]; rfl
    rw [ew] at ha
    refine ⟨_, rfl, a, _, _, rfl, ha, fun H1 s1 => ⟨true, rfl, iteF ?_⟩⟩
    have ha1 := s1 _ _ ha
    obtain ⟨k, hk, hks⟩ := tab_cmd T s
    refine ⟨_, rfl, a, _, 0, _, rfl, rfl, ha1, rfl, _, rfl, a, _, rfl, .inl ha1, _, _, rfl, ?_⟩
    refine ⟨_, rfl, rfl, _, rfl, iteDf (vs_ne s.notif.1) ⟨_, rfl, rfl, _, rfl, iteDf (vs_ne s.notif.2) ?_⟩⟩
    refine ⟨_, rfl, _, _, rfl, rfl, hk, true, rfl, iteT ⟨_, rfl, _, rfl, _, _, .ref k, rfl, rfl, ⟨es, n, _, kd_COMMAND_PARTS.at_, kd_COMMAND_PARTS.lit, hk, rfl⟩, ?_⟩⟩
    refine ⟨a, k, _, s.args, s.kinds, rfl, ha1, hks, hf, s.kinds_len, fun H3 s3 => ⟨_, rfl, true, rfl, iteT ⟨by show 0 ≤ sizeLine; decide, fun l hl => ?_⟩⟩⟩
    refine q l [] _ ((s1.trans s3).trans (same_upd hl)) ?_ upd_same rfl
    exact SameX.free (S := []) (same_x (s1.trans s3) _) hl (by simp)
  | re p cs =>
    obtain ⟨a, u, b, xs, rfl, ha, hu, hb, hr⟩ := Rp.rep hv
    refine ⟨_, rfl, a, _, _, rfl, ha, fun H1 s1 => ⟨true, rfl, iteF ?_⟩⟩
    have ha1 := s1 _ _ ha
    refine ⟨_, rfl, a, _, 0, _, rfl, rfl, ha1, rfl, _, rfl, a, _, rfl, .inl ha1, _, _, rfl, ?_⟩
    refine ⟨_, rfl, rfl, _, rfl, iteDf (by decide +kernel) ⟨_, rfl, rfl, _, rfl, iteDt rfl ?_⟩⟩
    refine ⟨_, rfl, rfl, true, rfl, iteT ⟨_, rfl, a, _, 1, _, rfl, rfl, ha1, rfl, p, u, rfl, hu.same s1, hf.1, fun H2 s2 => ⟨true, rfl, iteT ?_⟩⟩⟩
    have ha2 := s2 _ _ ha1
    have hb2 := s2 _ _ (s1 _ _ hb)
    refine ⟨_, rfl, a, _, 2, _, rfl, rfl, ha2, rfl, _, _, rfl, .tup hb2, _, rfl, true, rfl, iteT ?_⟩
    refine ⟨_, rfl, a, _, 2, _, rfl, rfl, ha2, rfl, b, xs, rfl, .inl hb2, fun l hl => ?_⟩
    refine q l xs _ ((s1.trans s2).trans (same_upd hl)) ?_ upd_same ((hr.same (s1.trans s2)).same (same_upd hl))
    exact SameX.free (S := []) (same_x (s1.trans s2) _) hl (by simp)
  | if_ t cs os =>
    obtain ⟨a, u, b, c, xs, ys, rfl, ha, hu, hb, hr, hc, hrc⟩ := Rp.ifc hv
    refine ⟨_, rfl, a, _, _, rfl, ha, fun H1 s1 => ⟨true, rfl, iteF ?_⟩⟩
    have ha1 := s1 _ _ ha
    refine ⟨_, rfl, a, _, 0, _, rfl, rfl, ha1, rfl, _, rfl, a, _, rfl, .inl ha1, _, _, rfl, ?_⟩
    refine ⟨_, rfl, rfl, _, rfl, iteDt rfl ?_⟩
    refine ⟨_, rfl, rfl, true, rfl, iteT ⟨_, rfl, a, _, 1, _, rfl, rfl, ha1, rfl, t, u, rfl, hu.same s1, hf.1, fun H2 s2 _ => ⟨true, rfl, iteT ?_⟩⟩⟩
    have ha2 := s2 _ _ ha1
    have hb2 := s2 _ _ (s1 _ _ hb)
    have hc2 := s2 _ _ (s1 _ _ hc)
    refine ⟨_, rfl, a, _, 2, _, rfl, rfl, ha2, rfl, _, _, rfl, .tup hb2, true, rfl, iteT ⟨_, rfl, a, _, 3, _, rfl, rfl, ha2, rfl, _, _, rfl, .tup hc2, _, rfl, true, rfl, iteT ?_⟩⟩
    refine ⟨_, rfl, a, _, 2, _, rfl, rfl, ha2, rfl, _, rfl, a, _, 3, _, rfl, rfl, ha2, rfl, b, c, xs, ys, rfl, rfl, hb2, hc2, ?_, fun d H3 s3 hd => ?_⟩
    · have e1 := RpL.len hr
      have e2 := RpL.len hrc
      rw [encs_map, List.length_map] at e1 e2
      have e3 := cnts_len cs
      have e4 := cnts_len os
      have e5 : 1 + cnts cs + cnts os ≤ 1000 := hcnt
      have e6 : 2000 ≤ sizeLine := by decide
      omega
    · refine ⟨d, _, rfl, .inl hd, fun l hl => ?_⟩
      have s4 := (s1.trans s2).trans s3
      refine q l (xs ++ ys) _ (s4.trans (same_upd hl)) ?_ upd_same ?_
      · exact SameX.free (S := []) (same_x s4 _) hl (by simp)
      · have : RpL H3 (encs (cs ++ os)) (xs ++ ys) := by
          rw [encs_app]
          exact (hr.same s4).app (hrc.same s4)
        exact this.same (same_upd hl)
theorem RpL.snoc {H : Hp} {ds : List PyData} {d : PyData} {xs : List V} (r : RpL H (ds ++ [d]) xs) : ∃ ys x, xs = ys ++ [x] ∧ RpL H ds ys ∧ Rp H d x := by
  obtain ⟨ys, zs, e, h1, h2⟩ := RpL.split r
  obtain ⟨v, vs, e2, h3, h4⟩ := h2
  cases h4
  exact ⟨ys, v, by rw [e, e2], h1, h3⟩
theorem isEmpty_app (xs : List V) (x : V) : (xs ++ [x]).isEmpty = false := by cases xs <;> rfl
def sp_are_commands : Sp := fun vs H Q _ => ∃ (cs : List Cmd) (a : Addr) (xs : List V), vs = [.ref a] ∧ H a = some (.tup xs) ∧ RpL H (encs cs) xs ∧ fits cs ∧ cnts cs ≤ 1000 ∧ ∀ H', Same H H' → Q (.bl true) H'
abbrev nn_are_commands : List Str := ["things", "waiting", "inner"]
theorem sc_are_commands : FnScope nn_are_commands ["things"] d_are_commands.scope := ⟨rfl, rfl, rfl, by decide +kernel, rfl, by decide +kernel, by decide +kernel⟩
theorem ok_are_commands (T : Top w K mg) : OK P w K mg base 8 "are_commands" ["things"] sp_are_commands := by
  refine Has.ok (d := d_are_commands) (T.has 20 26 rfl rfl rfl rfl rfl) sc_are_commands (fun _ _ _ _ _ _ us hl => match us, hl with | [_], _ => rfl) (by rintro _ _ _ _ ⟨_, _, _, rfl, _⟩; rfl) (fun f cdv A outer s H vs Q E hRm h => ?_)
  obtain ⟨cs, a, xs, rfl, ha, hr, hf, hc, q⟩ := h
  refine ⟨_, (pss_cons (ps_set (i := 1) sc_are_commands.nd rfl (.inl rfl) (pe_callTy lstA (by rfl) (T.free 98) (by decide +kernel) (pa_cons (pv 0) pa_nil)))
    (pss_cons (ps_while PassesOwn.never (pt_cmpR (op_neNilL hRm.units0) (pv 1) (pe_lst pa_nil) (nomark _)) (pss_cons (ps_set (i := 2) sc_are_commands.nd rfl (.inl rfl) (pe_c (ok_inner_commands T) (hRm.mono (by decide)) (by rfl) (pa_cons (pe_bm0 PySem.F.plainAttrs_list PySem.F.slot_list_pop PySem.F.type_list_pop mt_pop (pv 1)) pa_nil)))
    (pss_cons (ps_if (pt_cmpR op_isN (pv 2) pe_non (nomark _)) (pss_one (ps_ret pe_bl)) pss_nil)
    (pss_one (ps_expr (pe_bm PySem.F.plainAttrs_list PySem.F.slot_list_extend PySem.F.type_list_extend mt_extend (pv 1) (pa_cons (pv 2) pa_nil)))))))
    (pss_one (ps_ret pe_bl)))), ?_⟩
  refine ⟨_, rfl, a, xs, rfl, .inl ha, fun l hl => ?_⟩
  refine ⟨fun m σ H' => Same H H' ∧ ∃ (ws : List Cmd) (ys : List V) (i : Option V), σ = [some (.ref a), some (.ref l), i] ∧ H' l = some (.lst ys) ∧ RpL H' (encs ws) ys ∧ fits ws ∧ cnts ws = m ∧ m ≤ 1000, ⟨_, same_upd hl, cs, xs, none, rfl, upd_same, hr.same (same_upd hl), hf, rfl, hc⟩, fun m σ H1 hp => ?_⟩
  obtain ⟨s1, ws, ys, i, rfl, hy, hry, hfw, hm, hm2⟩ := hp
  refine ⟨_, rfl, by show 0 ≤ sizeLine; decide, fun t ht => ?_⟩
  have st : Same H1 (upd H1 t (.lst [])) := same_upd ht
  have s2 : Same H (upd H1 t (.lst [])) := s1.trans st
  have hy2 := st _ _ hy
  have hry2 := hry.same st
  refine ⟨l, t, ys, rfl, rfl, .of hy2, .of upd_same, _, rfl, ?_⟩
  generalize upd H1 t (.lst []) = H2 at st s2 hy2 hry2 ⊢
  rcases List.eq_nil_or_concat ws with e | ⟨ws', c, e⟩
  · subst e
    have e1 : ys = [] := hry
    subst e1
    exact iteF (q _ s2)
  · rw [List.concat_eq_append] at e
    subst e
    rw [encs_app] at hry2
    obtain ⟨ys', y, rfl, hr1, hr2⟩ := RpL.snoc hry2
    rw [isEmpty_app]
    obtain ⟨hf1, hf2, _⟩ := fits_app.mp hfw
    have hm3 : cnts ws' + (c.cnt + 0) = m := by rw [← hm, cnts_app]; rfl
    refine iteT ⟨_, fun _ _ h => h, ?_⟩
    have tk : TK H2 (upd H2 l (.lst ys')) := tk_upd fun zs z => by rw [hy2] at z; cases z
    refine ⟨_, rfl, .inl ⟨rfl, _, .of hy2⟩, l, ys' ++ [y], y, rfl, rfl, hy2, by simp, ?_⟩
    rw [List.dropLast_concat]
    refine ⟨c, y, rfl, hr2.tk tk, hf2, by omega, fun d zs H3 s3 hd hd3 hrz => ?_⟩
    have hl3 := s3 _ _ (show (upd H2 l (.lst ys')) l = some (.lst ys') from upd_same)
    refine ⟨_, rfl, rfl, _, rfl, iteDf (by intro z; cases z) ?_⟩
    have e2 := RpL.len hr1
    have e3 := RpL.len hrz
    rw [encs_map, List.length_map] at e2 e3
    have e4 := cnts_len ws'
    have e5 := cnts_len c.inner
    have e6 := c.inner_cnt
    have e7 : 2000 ≤ sizeLine := by decide
    refine ⟨_, rfl, .inl ⟨rfl, _, .of hl3⟩, _, rfl, l, d, ys', zs, rfl, rfl, hl3, hd3, by omega, ?_⟩
    have tk3 : TK H3 (upd H3 l (.lst (ys' ++ zs))) := tk_upd fun zs z => by rw [hl3] at z; cases z
    refine ⟨cnts (ws' ++ c.inner), ?_, Same.up ((Same.up s2 hl).trans s3) hl, ws' ++ c.inner, ys' ++ zs, some (.ref d), rfl, upd_same, ?_, fits_app.mpr ⟨hf1, Cmd.inner_fit hf2⟩, rfl, ?_⟩
    · rw [cnts_app]
      omega
    · rw [encs_app]
      exact RpL.app (((hr1.tk tk).same s3).tk tk3) (hrz.tk tk3)
    · rw [cnts_app]
      omega
def sp_is_command_value : Sp := fun vs H Q _ => ∃ (c : Cmd) (v : V), vs = [v] ∧ Rp H c.enc v ∧ c.fit ∧ c.cnt ≤ 1000 ∧ ∀ H', Same H H' → Q (.bl true) H'
abbrev nn_is_command_value : List Str := ["thing"]
theorem sc_is_command_value : FnScope nn_is_command_value ["thing"] d_is_command_value.scope := ⟨rfl, rfl, rfl, by decide +kernel, rfl, by decide +kernel, by decide +kernel⟩
theorem ok_is_command_value (T : Top w K mg) : OK P w K mg base 9 "is_command_value" ["thing"] sp_is_command_value := by
  refine Has.ok (d := d_is_command_value) (T.has 21 27 rfl rfl rfl rfl rfl) sc_is_command_value (fun _ _ _ _ _ _ us hl => match us, hl with | [_], _ => rfl) (by rintro _ _ _ _ ⟨_, _, rfl, _⟩; rfl) (fun f cdv A outer s H vs Q E hRm h => ?_)
  obtain ⟨c, v, rfl, hv, hf, hc, q⟩ := h
  refine ⟨_, (pss_one (ps_ret (pe_c (ok_are_commands T) (hRm.mono (by decide)) (by rfl) (pa_cons (pe_tup (pa_cons (pv 0) pa_nil)) pa_nil)))), ?_⟩
  refine ⟨_, rfl, by show 1 ≤ sizeLine; decide, fun t ht => ?_⟩
  have st : Same H (upd H t (.tup [v])) := same_upd ht
  exact ⟨[c], t, [v], rfl, upd_same, ⟨v, [], rfl, hv.same st, rfl⟩, ⟨hf, trivial⟩, by show c.cnt + 0 ≤ 1000; omega, fun H1 s1 => q _ (st.trans s1)⟩
def sp_is_size : Sp := fun vs H Q _ => ∃ (h : Str × Poly) (v : V), vs = [v] ∧ Rp H (encH h) v ∧ Nm h.1 ∧ PolyOk h.2 ∧ ∀ H', Same H H' → Q (.bl true) H'
abbrev nn_is_size : List Str := ["thing"]
theorem sc_is_size : FnScope nn_is_size ["thing"] d_is_size.scope := ⟨rfl, rfl, rfl, by decide +kernel, rfl, by decide +kernel, by decide +kernel⟩
theorem ok_is_size (T : Top w K mg) : OK P w K mg base 4 "is_size" ["thing"] sp_is_size := by
  refine Has.ok (d := d_is_size) (T.has 22 28 rfl rfl rfl rfl rfl) sc_is_size (fun _ _ _ _ _ _ us hl => match us, hl with | [_], _ => rfl) (by rintro _ _ _ _ ⟨_, _, rfl, _⟩; rfl) (fun f cdv A outer s H vs Q E hRm h => ?_)
  obtain ⟨p, v, rfl, hv, hn, hp, q⟩ := h
  obtain ⟨a, u, rfl, ha, hu⟩ := Rp.head2 hv
  refine ⟨_, (pss_one (ps_ret (pe_and (pe_c (ok_is_tuple T) (hRm.mono (by decide)) (by rfl) (pa_cons (pv 0) (pa_cons pe_int pa_nil))) (pe_and (pe_c (ok_is_name_value T) (hRm.mono (by decide)) (by rfl) (pa_cons (pe_ix ixT (pv 0) pe_int (fun _ _ => rfl)) pa_nil)) (pe_one (pe_c (ok_is_poly_value T) (hRm.mono (by decide)) (by rfl) (pa_cons (pe_ix ixT (pv 0) pe_int (fun _ _ => rfl)) pa_nil))))))), ?_⟩
  refine ⟨_, rfl, a, _, _, rfl, ha, true, rfl, iteT ⟨_, rfl, a, _, 0, _, rfl, rfl, ha, rfl, _, rfl, hn, fun H1 s1 => ⟨true, rfl, iteT ?_⟩⟩⟩
  exact ⟨_, rfl, a, _, 1, _, rfl, rfl, s1 _ _ ha, rfl, p.2, u, rfl, hu.same s1, hp, fun H2 s2 => q _ (s1.trans s2)⟩
def sp_is_procedure : Sp := fun vs H Q _ => ∃ (h : Str × List Cmd) (v : V), vs = [v] ∧ Rp H (encR h) v ∧ Nm h.1 ∧ fits h.2 ∧ cnts h.2 ≤ 1000 ∧ ∀ H', Same H H' → Q (.bl true) H'
abbrev nn_is_procedure : List Str := ["thing"]
theorem sc_is_procedure : FnScope nn_is_procedure ["thing"] d_is_procedure.scope := ⟨rfl, rfl, rfl, by decide +kernel, rfl, by decide +kernel, by decide +kernel⟩
theorem ok_is_procedure (T : Top w K mg) : OK P w K mg base 9 "is_procedure" ["thing"] sp_is_procedure := by
  refine Has.ok (d := d_is_procedure) (T.has 23 29 rfl rfl rfl rfl rfl) sc_is_procedure (fun _ _ _ _ _ _ us hl => match us, hl with | [_], _ => rfl) (by rintro _ _ _ _ ⟨_, _, rfl, _⟩; rfl) (fun f cdv A outer s H vs Q E hRm h => ?_)
  obtain ⟨p, v, rfl, hv, hn, hf, hc, q⟩ := h
  obtain ⟨a, b, xs, rfl, ha, hb, hr⟩ := Rp.proc hv
  refine ⟨_, (pss_one (ps_ret (pe_and (pe_c (ok_is_tuple T) (hRm.mono (by decide)) (by rfl) (pa_cons (pv 0) (pa_cons pe_int pa_nil))) (pe_and (pe_c (ok_is_name_value T) (hRm.mono (by decide)) (by rfl) (pa_cons (pe_ix ixT (pv 0) pe_int (fun _ _ => rfl)) pa_nil)) (pe_and (pe_callB isSame (by rfl) (T.free 91) (by decide +kernel) (pa_cons (pe_ix ixT (pv 0) pe_int (fun _ _ => rfl)) (pa_cons (pe_bltn (v := .ty "tuple") rfl (T.free 97) (by decide +kernel) rfl) pa_nil))) (pe_one (pe_c (ok_are_commands T) (hRm.mono (by decide)) (by rfl) (pa_cons (pe_ix ixT (pv 0) pe_int (fun _ _ => rfl)) pa_nil)))))))), ?_⟩
  refine ⟨_, rfl, a, _, _, rfl, ha, true, rfl, iteT ⟨_, rfl, a, _, 0, _, rfl, rfl, ha, rfl, _, rfl, hn, fun H1 s1 => ⟨true, rfl, iteT ?_⟩⟩⟩
  refine ⟨_, rfl, a, _, 1, _, rfl, rfl, s1 _ _ ha, rfl, _, _, rfl, .tup (s1 _ _ hb), true, rfl, iteT ?_⟩
  exact ⟨_, rfl, a, _, 1, _, rfl, rfl, s1 _ _ ha, rfl, p.2, b, xs, rfl, s1 _ _ hb, hr.same s1, hf, hc, fun H2 s2 => q _ (s1.trans s2)⟩
end
end NP
/-! NPShape3 -/
namespace NP
open PySem PySem.Spec PyProof.Rows L2 TL
structure Scr.fit (s : Scr) : Prop where
  t : ∀ h ∈ s.tapes, Nm h.1 ∧ PolyOk h.2
  i : ∀ h ∈ s.idx, Nm h.1 ∧ PolyOk h.2
  p : ∀ r ∈ s.procs, Nm r.1 ∧ fits r.2 ∧ cnts r.2 ≤ 1000
  tl : s.tapes.length ≤ 100
  il : s.idx.length ≤ 100
  pl : s.procs.length ≤ 100
theorem nm_pool {z : Str} (h : z ∈ pool) : Nm z := List.mem_cons_of_mem _ h
theorem procs_fit {ts own is : List Str} (h1 : Sub ts) (h0 : Sub own) (h2 : Sub is) : ∀ {ps : List Str} {rs : List (Str × List Cmd)}, Sub ps → procsOk ts own is ps rs → pcnt rs ≤ 1000 → ∀ r ∈ rs, Nm r.1 ∧ fits r.2 ∧ cnts r.2 ≤ 1000
  | ps, [], _, _, _ => fun r hr => by cases hr
  | ps, (n, cs) :: rs, hs, h, hc => fun r hr => by
    obtain ⟨hn, hnp, ho, hrest⟩ := h
    have hc : cnts cs + pcnt rs ≤ 1000 := hc
    rcases List.mem_cons.mp hr with e | e
    · subst e
      exact ⟨nm_pool hn, oks_fit h1 h0 h2 hs ho, by show cnts cs ≤ 1000; omega⟩
    · exact procs_fit h1 h0 h2 (fun z hz => (List.mem_append.mp hz).elim (hs z) fun e => by rw [List.mem_singleton.mp e]; exact nm_pool hn) hrest (by omega) r e
theorem Scr.ok.fit {s : Scr} (h : s.ok) : s.fit where
  t := fun x hx => ⟨nm_pool (h.tp x hx).1, (h.tp x hx).2⟩
  i := fun x hx => ⟨nm_pool (h.ip x hx).1, (h.ip x hx).2⟩
  p := by
    have ht : Sub (s.tapes.map (·.1)) := fun z hz => by
      obtain ⟨x, hx, rfl⟩ := List.mem_map.mp hz
      exact nm_pool (h.tp x hx).1
    refine procs_fit (fun z hz => (List.mem_cons.mp hz).elim (fun e => by rw [e]; exact List.mem_cons_self ..) (ht z)) ht (fun z hz => ?_) (fun z hz => by cases hz) h.pr (Nat.le_trans h.cl (by decide))
    obtain ⟨x, hx, rfl⟩ := List.mem_map.mp hz
    exact nm_pool (h.ip x hx).1
  tl := Nat.le_trans h.tl (by decide)
  il := Nat.le_trans h.il (by decide)
  pl := Nat.le_trans h.pl (by decide)
section
variable {P : Program} {w : World} {K : PySem.W.Frag} {mg : Str → Option Value} {base : Heap}
def sp_is_script_value : Sp := fun vs H Q _ => ∃ (s : Scr) (v : V), vs = [v] ∧ Rp H s.enc v ∧ s.fit ∧ ∀ H', Same H H' → Q (.bl true) H'
abbrev nn_is_script_value : List Str := ["thing", "part", "tapes", "indexes", "procedures", "pair"]
theorem sc_is_script_value : FnScope nn_is_script_value ["thing"] d_is_script_value.scope := ⟨rfl, rfl, rfl, by decide +kernel, rfl, by decide +kernel, by decide +kernel⟩
theorem ok_is_script_value (T : Top w K mg) : OK P w K mg base 10 "is_script_value" ["thing"] sp_is_script_value := by
  refine Has.ok (d := d_is_script_value) (T.has 24 30 rfl rfl rfl rfl rfl) sc_is_script_value (fun _ _ _ _ _ _ us hl => match us, hl with | [_], _ => rfl) (by rintro _ _ _ _ ⟨_, _, rfl, _⟩; rfl) (fun f cdv A outer s H vs Q E hRm h => ?_)
  obtain ⟨t, v, rfl, hv, hf, q⟩ := h
  obtain ⟨a, b, c, d, xs, ys, zs, rfl, ha, hb, hrb, hc, hrc, hd, hrd⟩ := Rp.scr hv
  refine ⟨_, (pss_cons (ps_if (PW.pt (pw_or (pt_not (pt_val (pe_c (ok_is_tuple T) (hRm.mono (by decide)) (by rfl) (pa_cons (pv 0) (pa_cons pe_int pa_nil))))) (pw_or1 (pt_not (pt_val (pe_callB (cr_all rfl) (by rfl) (T.free 93) (by decide +kernel) (pa_cons (pe_lc (own := [("part", 1)]) rfl sc_is_script_value.nd (pi_tup (pv 0)) (blkOk_by (N := nn_is_script_value) (sc := d_is_script_value.scope) (by decide +kernel)) (fun _ _ _ _ _ => (pg_name (i := 1) sc_is_script_value.nd rfl (.inl rfl))) (fun _ _ _ _ _ => pts_nil) (fun _ _ _ _ _ => (pe_callB isSame (by rfl) (T.free 91) (by decide +kernel) (pa_cons (pv 1) (pa_cons (pe_bltn (v := .ty "tuple") rfl (T.free 97) (by decide +kernel) rfl) pa_nil))))) pa_nil))))))) (pss_one (ps_ret pe_bl)) pss_nil)
    (pss_cons (ps_asg (pv 0) (pg_tup rfl (pgs_cons (pg_name (i := 2) sc_is_script_value.nd rfl (.inl rfl) (.inr rfl)) (pgs_cons (pg_name (i := 3) sc_is_script_value.nd rfl (.inl rfl) (.inr rfl)) (pgs_cons (pg_name (i := 4) sc_is_script_value.nd rfl (.inl rfl) (.inr rfl)) pgs_nil)))))
    (pss_one (ps_ret (pe_and (pe_callB (cr_all rfl) (by rfl) (T.free 93) (by decide +kernel) (pa_cons (pe_lc (own := [("pair", 5)]) rfl sc_is_script_value.nd (pi_tup (pe_op catT (pv 2) (pv 3))) (blkOk_by (N := nn_is_script_value) (sc := d_is_script_value.scope) (by decide +kernel)) (fun _ _ _ _ _ => (pg_name (i := 5) sc_is_script_value.nd rfl (.inl rfl))) (fun _ _ _ _ _ => pts_nil) (fun _ _ _ _ _ => (pe_c (ok_is_size T) (hRm.mono (by decide)) (by rfl) (pa_cons (pv 5) pa_nil)))) pa_nil)) (pe_one (pe_callB (cr_all rfl) (by rfl) (T.free 93) (by decide +kernel) (pa_cons (pe_lc (own := [("pair", 5)]) rfl sc_is_script_value.nd (pi_tup (pv 4)) (blkOk_by (N := nn_is_script_value) (sc := d_is_script_value.scope) (by decide +kernel)) (fun _ _ _ _ _ => (pg_name (i := 5) sc_is_script_value.nd rfl (.inl rfl))) (fun _ _ _ _ _ => pts_nil) (fun _ _ _ _ _ => (pe_c (ok_is_procedure T) (hRm.mono (by decide)) (by rfl) (pa_cons (pv 5) pa_nil)))) pa_nil)))))))), ?_⟩
  refine ⟨_, rfl, a, _, _, rfl, ha, true, rfl, iteF ?_⟩
  refine ⟨_, rfl, a, rfl, ⟨_, .of ha⟩, ?_⟩
  refine lc_all (walk_tup (xs := [.ref b, .ref c, .ref d])) (by show 3 ≤ 1000000; decide) (fun H' s1 => .of (s1 _ _ ha)) (fun i x H1 H2 hi s1 hy C k => ?_) fun D H1 bs s1 e eb => ⟨D, bs, rfl, .of e, ?_⟩
  · obtain ⟨rfl, hx⟩ := hy
    have hty : ∃ (p : Addr) (us : List V), x = .ref p ∧ H2 p = some (.tup us) := by
      match i, hi with
      | 0, _ => exact ⟨b, xs, (Option.some.inj hx).symm, s1 _ _ hb⟩
      | 1, _ => exact ⟨c, ys, (Option.some.inj hx).symm, s1 _ _ hc⟩
      | 2, _ => exact ⟨d, zs, (Option.some.inj hx).symm, s1 _ _ hd⟩
    obtain ⟨p, us, rfl, hp⟩ := hty
    exact ⟨rfl, _, rfl, _, _, rfl, .tup hp, k _ (.refl _)⟩
  rw [eb]
  refine ⟨true, rfl, iteF ?_⟩
  have ha1 := s1 _ _ ha
  have hb1 := s1 _ _ hb
  have hc1 := s1 _ _ hc
  have hd1 := s1 _ _ hd
  refine ⟨_, rfl, a, _, rfl, .of ha1, rfl, _, _, rfl, _, _, rfl, _, _, rfl, rfl, ?_⟩
  have e1 := RpL.len hrb
  have e2 := RpL.len hrc
  have e3 := RpL.len hrd
  rw [List.length_map] at e1 e2 e3
  have f1 := hf.tl
  have f2 := hf.il
  have f3 := hf.pl
  have big : 1000 ≤ sizeLine := by decide
  refine ⟨_, rfl, _, rfl, b, c, xs, ys, rfl, rfl, hb1, hc1, by omega, fun p H2 s2 hp => ⟨p, rfl, ⟨_, .of hp⟩, ?_⟩⟩
  have hall : RpL H2 ((t.tapes ++ t.idx).map encH) (xs ++ ys) := by
    rw [List.map_append]
    exact (hrb.app hrc).same (s1.trans s2)
  refine lc_all walk_tup (by simp; omega) (fun H' s3 => .of (s3 _ _ hp)) (fun i x H3 H4 hi s3 hy C k => ?_) fun D2 H3 bs2 s3 e4 eb2 => ⟨D2, bs2, rfl, .of e4, ?_⟩
  · obtain ⟨rfl, hx⟩ := hy
    obtain ⟨dd, h1, h2⟩ := RpL.at_ hall hx
    rw [List.getElem?_map] at h1
    obtain ⟨hh, h3, rfl⟩ := Option.map_eq_some_iff.mp h1
    have hm : Nm hh.1 ∧ PolyOk hh.2 := (List.mem_append.mp (List.mem_of_getElem? h3)).elim (hf.t hh) (hf.i hh)
    exact ⟨rfl, _, rfl, hh, x, rfl, h2.same s3, hm.1, hm.2, fun H5 s5 => k _ s5⟩
  rw [eb2]
  refine ⟨true, rfl, iteT ?_⟩
  have hd3 := s3 _ _ (s2 _ _ hd1)
  have hrd3 := hrd.same ((s1.trans s2).trans s3)
  refine ⟨_, rfl, d, rfl, ⟨_, .of hd3⟩, ?_⟩
  refine lc_all walk_tup (by omega) (fun H' s3 => .of (s3 _ _ hd3)) (fun i x H4 H5 hi s4 hy C k => ?_) fun D3 H4 bs3 s4 e5 eb3 => ⟨D3, bs3, rfl, .of e5, ?_⟩
  · obtain ⟨rfl, hx⟩ := hy
    obtain ⟨dd, h1, h2⟩ := RpL.at_ hrd3 hx
    rw [List.getElem?_map] at h1
    obtain ⟨hh, h3, rfl⟩ := Option.map_eq_some_iff.mp h1
    have hm := hf.p hh (List.mem_of_getElem? h3)
    exact ⟨rfl, _, rfl, hh, x, rfl, h2.same s4, hm.1, hm.2.1, hm.2.2, fun H5 s5 => k _ s5⟩
  rw [eb3]
  exact q _ (((s1.trans s2).trans s3).trans s4)
def sp_need_script : Sp := fun vs H Q _ => ∃ (s : Scr) (v : V), vs = [v] ∧ Rp H s.enc v ∧ s.fit ∧ ∀ H', Same H H' → Q .non H'
abbrev nn_need_script : List Str := ["script"]
theorem sc_need_script : FnScope nn_need_script ["script"] d_need_script.scope := ⟨rfl, rfl, rfl, by decide +kernel, rfl, by decide +kernel, by decide +kernel⟩
theorem ok_need_script (T : Top w K mg) : OK P w K mg base 11 "need_script" ["script"] sp_need_script := by
  refine Has.ok (d := d_need_script) (T.has 25 31 rfl rfl rfl rfl rfl) sc_need_script (fun _ _ _ _ _ _ us hl => match us, hl with | [_], _ => rfl) (by rintro _ _ _ _ ⟨_, _, rfl, _⟩; rfl) (fun f cdv A outer s H vs Q E hRm h => ?_)
  obtain ⟨t, v, rfl, hv, hf, q⟩ := h
  refine ⟨_, (pss_one (ps_if (pt_not (pt_val (pe_c (ok_is_script_value T) (hRm.mono (by decide)) (by rfl) (pa_cons (pv 0) pa_nil)))) (pss_one ps_never) pss_nil)), ?_⟩
  exact ⟨_, rfl, t, v, rfl, hv, hf, fun H1 s1 => ⟨true, rfl, iteF (q _ s1)⟩⟩
end
end NP
/-! NPLines -/
namespace NP
open PySem PySem.Spec PyProof.Rows L2 TL
/-! ## lines, word by word -/
def cellS (a i : Str) : Str := a ++ ("[" ++ (i ++ "]"))
def Pl.words : Pl → List Str
  | .is a i x => [cellS a i, "is", x]
  | .equal a i b j => [cellS a i, "equals", cellS b j]
  | .empty a i => [cellS a i, "empty"]
  | .inside a i => [a, "has", i]
  | .at i j => [i, "=", j]
def Tst.words : Tst → List Str
  | .pl p => p.words
  | .no t => "not" :: t.words
def Si.words : Si → List Str
  | .set a i x => [cellS a i, "=", x]
  | .copy a i b j => [cellS a i, "=", cellS b j]
  | .clear a i => [cellS a i, "=", "empty"]
  | .zero i => [i, "=", "0"]
  | .up i => ["up", i]
  | .down i => ["down", i]
  | .same i j => [i, "=", j]
  | .go p => ["do", p]
  | .choose pl a i ls => [pl, "chooses", cellS a i, "from", ls]
  | .wins pl => [pl, "wins"]
def polyWords (p : Poly) : List Str := if p = [] then ["0"] else (p.reverse.map textPair).intersperse "+"
inductive Ln where
  | tape (n : Str) (p : Poly) | idx (n : Str) (p : Poly) | proc (n : Str) | si (s : Si) | re (p : Poly) | if_ (t : Tst) | els | fin
def Ln.words : Ln → List Str
  | .tape n p => "tape" :: n :: "size" :: polyWords p
  | .idx n p => "index" :: n :: "to" :: polyWords p
  | .proc n => ["procedure", n]
  | .si s => s.words
  | .re p => "repeat" :: polyWords p
  | .if_ t => "if" :: t.words
  | .els => ["else"]
  | .fin => ["end"]
def jn (ws : List Str) : Str := Str.join " " ws
def Ln.text (l : Ln) : Str := jn l.words
theorem tl_jn (ws : List Str) : tl (jn ws) = joinL [32] (ws.map tl) := by
  unfold jn
  rw [tl_join, show tl (" " : Str) = [32] by decide +kernel]
theorem jn_cons (a : Str) {ws : List Str} (h : ws ≠ []) : jn (a :: ws) = a ++ (" " ++ jn ws) := by
  refine sx ?_
  rw [tl_jn, tl_append, tl_append, tl_jn, show tl (" " : Str) = [32] by decide +kernel]
  cases ws with
  | nil => exact absurd rfl h
  | cons b r => rfl
theorem jn_one (a : Str) : jn [a] = a := by
  refine sx ?_
  rw [tl_jn]
  rfl
theorem jn_poly (p : Poly) : jn (polyWords p) = textPoly p := by
  unfold polyWords textPoly
  by_cases h : p = []
  · rw [if_pos h, if_pos h, jn_one]
  · rw [if_neg h, if_neg h]
    refine sx ?_
    rw [tl_jn, tl_join]
    have e : ∀ xs : List Str, joinL [32] ((xs.intersperse ("+" : Str)).map tl) = joinL (tl " + ") (xs.map tl) := by
      intro xs
      have e1 : tl (" + " : Str) = [32, 43, 32] := by decide +kernel
      have e2 : tl ("+" : Str) = [43] := by decide +kernel
      induction xs with
      | nil => rfl
      | cons a r ih =>
        cases r with
        | nil => rfl
        | cons b r =>
          have ih' : joinL [32] (((b :: r).intersperse ("+" : Str)).map tl) = joinL (tl " + ") ((b :: r).map tl) := ih
          have hne : ((b :: r).intersperse ("+" : Str)).map tl ≠ [] := by cases r <;> simp [List.intersperse]
          have e3 : ∀ (x y : List Nat) (zs : List (List Nat)), zs ≠ [] → joinL [32] (x :: y :: zs) = x ++ ([32] ++ (y ++ ([32] ++ joinL [32] zs))) := by
            intro x y zs h
            cases zs with
            | nil => exact absurd rfl h
            | cons z zs => rfl
          show joinL [32] (tl a :: tl "+" :: ((b :: r).intersperse ("+" : Str)).map tl) = tl a ++ (tl " + " ++ joinL (tl " + ") ((b :: r).map tl))
          rw [e3 _ _ _ hne, ih', e1, e2]
          rfl
    exact e _
def Pl.text (p : Pl) : Str := jn p.words
def Tst.text (t : Tst) : Str := jn t.words
def Si.text (s : Si) : Str := jn s.words
theorem Pl.words_ne (p : Pl) : p.words ≠ [] := by cases p <;> simp [Pl.words]
theorem Tst.words_ne (t : Tst) : t.words ≠ [] := by
  cases t with
  | pl p => exact p.words_ne
  | no t => simp [Tst.words]
theorem Si.words_ne (s : Si) : s.words ≠ [] := by cases s <;> simp [Si.words]
theorem poly_ne (p : Poly) : polyWords p ≠ [] := by
  unfold polyWords
  by_cases h : p = []
  · rw [if_pos h]
    simp
  · rw [if_neg h]
    cases hr : p.reverse with
    | nil => exact absurd (by simpa using hr) h
    | cons a r => cases r <;> simp [List.intersperse]
theorem no_text (t : Tst) : (Tst.no t).text = "not " ++ t.text := by
  show jn ("not" :: t.words) = _
  rw [jn_cons _ t.words_ne, ← s_assoc]
  rfl
/-! ### the f-strings -/
theorem lit_is : tl ("] is " : Str) = tl ("]" : Str) ++ ([32] ++ (tl ("is" : Str) ++ [32])) := by decide +kernel
theorem lit_eqs : tl ("] equals " : Str) = tl ("]" : Str) ++ ([32] ++ (tl ("equals" : Str) ++ [32])) := by decide +kernel
theorem lit_emp : tl ("] empty" : Str) = tl ("]" : Str) ++ ([32] ++ tl ("empty" : Str)) := by decide +kernel
theorem lit_has : tl (" has " : Str) = [32] ++ (tl ("has" : Str) ++ [32]) := by decide +kernel
theorem lit_eq : tl (" = " : Str) = [32] ++ (tl ("=" : Str) ++ [32]) := by decide +kernel
theorem lit_ceq : tl ("] = " : Str) = tl ("]" : Str) ++ ([32] ++ (tl ("=" : Str) ++ [32])) := by decide +kernel
theorem lit_cemp : tl ("] = empty" : Str) = tl ("]" : Str) ++ ([32] ++ (tl ("=" : Str) ++ ([32] ++ tl ("empty" : Str)))) := by decide +kernel
theorem lit_z : tl (" = 0" : Str) = [32] ++ (tl ("=" : Str) ++ ([32] ++ tl ("0" : Str))) := by decide +kernel
theorem lit_ch : tl (" chooses " : Str) = [32] ++ (tl ("chooses" : Str) ++ [32]) := by decide +kernel
theorem lit_fr : tl ("] from " : Str) = tl ("]" : Str) ++ ([32] ++ (tl ("from" : Str) ++ [32])) := by decide +kernel
theorem lit_wins : tl (" wins" : Str) = [32] ++ tl ("wins" : Str) := by decide +kernel
theorem tx_is (a i x : Str) : catS [a, "[", i, "] is ", x] = (Pl.is a i x).text := sx (by
  simp only [Pl.text, Pl.words, tl_jn, catS, cellS, tl_append, List.map, joinL, lit_is, List.append_assoc])
theorem tx_equal (a i b j : Str) : catS [a, "[", i, "] equals ", b, "[", j, "]"] = (Pl.equal a i b j).text := sx (by
  simp only [Pl.text, Pl.words, tl_jn, catS, cellS, tl_append, List.map, joinL, lit_eqs, List.append_assoc])
theorem tx_empty (a i : Str) : catS [a, "[", i, "] empty"] = (Pl.empty a i).text := sx (by
  simp only [Pl.text, Pl.words, tl_jn, catS, cellS, tl_append, List.map, joinL, lit_emp, List.append_assoc])
theorem tx_inside (a i : Str) : catS [a, " has ", i] = (Pl.inside a i).text := sx (by
  simp only [Pl.text, Pl.words, tl_jn, catS, tl_append, List.map, joinL, lit_has, List.append_assoc])
theorem tx_at (i j : Str) : catS [i, " = ", j] = (Pl.at i j).text := sx (by
  simp only [Pl.text, Pl.words, tl_jn, catS, tl_append, List.map, joinL, lit_eq, List.append_assoc])
theorem tx_set (a i x : Str) : catS [a, "[", i, "] = ", x] = (Si.set a i x).text := sx (by
  simp only [Si.text, Si.words, tl_jn, catS, cellS, tl_append, List.map, joinL, lit_ceq, List.append_assoc])
theorem tx_copy (a i b j : Str) : catS [a, "[", i, "] = ", b, "[", j, "]"] = (Si.copy a i b j).text := sx (by
  simp only [Si.text, Si.words, tl_jn, catS, cellS, tl_append, List.map, joinL, lit_ceq, List.append_assoc])
theorem tx_clear (a i : Str) : catS [a, "[", i, "] = empty"] = (Si.clear a i).text := sx (by
  simp only [Si.text, Si.words, tl_jn, catS, cellS, tl_append, List.map, joinL, lit_cemp, List.append_assoc])
theorem tx_zero (i : Str) : catS [i, " = 0"] = (Si.zero i).text := sx (by
  simp only [Si.text, Si.words, tl_jn, catS, tl_append, List.map, joinL, lit_z, List.append_assoc])
theorem tx_same (i j : Str) : catS [i, " = ", j] = (Si.same i j).text := sx (by
  simp only [Si.text, Si.words, tl_jn, catS, tl_append, List.map, joinL, lit_eq, List.append_assoc])
theorem tx_choose (pl a i ls : Str) : catS [pl, " chooses ", a, "[", i, "] from ", ls] = (Si.choose pl a i ls).text := sx (by
  simp only [Si.text, Si.words, tl_jn, catS, cellS, tl_append, List.map, joinL, lit_ch, lit_fr, List.append_assoc])
theorem tx_wins (pl : Str) : catS [pl, " wins"] = (Si.wins pl).text := sx (by
  simp only [Si.text, Si.words, tl_jn, catS, tl_append, List.map, joinL, lit_wins, List.append_assoc])
theorem tx_two (w i : Str) : catS [w, " ", i] = jn [w, i] := sx (by
  have : tl (" " : Str) = [32] := by decide +kernel
  simp only [tl_jn, catS, tl_append, List.map, joinL, this, List.append_assoc])
/-! ### lengths -/
theorem part_len {k z : Str} (h : PartOk k z) : z.length ≤ 26 := by
  unfold PartOk at h
  split at h
  · exact (by decide +kernel : ∀ z ∈ letters4, z.length ≤ 26) z h
  · split at h
    · rw [len_tl]
      exact h.2.2.2
    · split at h
      · rcases h with rfl | rfl <;> decide +kernel
      · exact (by decide +kernel : ∀ z ∈ allNames, z.length ≤ 26) z h
theorem Parts.lens : ∀ {ks zs : List Str}, Parts ks zs → ∀ z ∈ zs, z.length ≤ 26
  | [], [], _ => fun z hz => by cases hz
  | _ :: _, _ :: _, h => fun z hz => (List.mem_cons.mp hz).elim (fun e => by rw [e]; exact part_len h.1) (Parts.lens h.2 z)
theorem jn_len (ws : List Str) (m : Nat) (h : ∀ z ∈ ws, z.length ≤ m) : (jn ws).length ≤ ws.length * (m + 1) := by
  unfold jn
  have h1 := join_len " " m ws h
  have h2 : (" " : Str).length = 1 := by decide +kernel
  rwa [h2] at h1
theorem cell_len {a i : Str} (ha : a.length ≤ 26) (hi : i.length ≤ 26) : (cellS a i).length ≤ 54 := by
  unfold cellS
  rw [s_len, s_len, s_len]
  have h2 : ("[" : Str).length = 1 := by decide +kernel
  have h3 : ("]" : Str).length = 1 := by decide +kernel
  omega
theorem Pl.words_len {p : Pl} (h : p.fit) : p.words.length ≤ 3 ∧ ∀ z ∈ p.words, z.length ≤ 54 := by
  have hl := Parts.lens h
  have l1 : ("is" : Str).length ≤ 54 := by decide +kernel
  have l2 : ("equals" : Str).length ≤ 54 := by decide +kernel
  have l3 : ("empty" : Str).length ≤ 54 := by decide +kernel
  have l4 : ("has" : Str).length ≤ 54 := by decide +kernel
  have l5 : ("=" : Str).length ≤ 54 := by decide +kernel
  cases p <;> simp only [Pl.args, Pl.words, List.mem_cons, List.not_mem_nil, or_false, forall_eq_or_imp, forall_eq, List.length_cons, List.length_nil] at hl ⊢
  · exact ⟨by omega, cell_len hl.1 hl.2.1, l1, by omega⟩
  · exact ⟨by omega, cell_len hl.1 hl.2.1, l2, cell_len hl.2.2.1 hl.2.2.2⟩
  · exact ⟨by omega, cell_len hl.1 hl.2, l3⟩
  · exact ⟨by omega, by omega, l4, by omega⟩
  · exact ⟨by omega, by omega, l5, by omega⟩
theorem Tst.words_len : ∀ {t : Tst}, t.base.fit → t.words.length ≤ 3 + t.nots ∧ ∀ z ∈ t.words, z.length ≤ 54
  | .pl p, h => Pl.words_len h
  | .no t, h => by
    obtain ⟨h1, h2⟩ := Tst.words_len (t := t) h
    refine ⟨?_, fun z hz => (List.mem_cons.mp hz).elim (fun e => by rw [e]; decide +kernel) (h2 z)⟩
    show t.words.length + 1 ≤ 3 + (t.nots + 1)
    omega
theorem Si.words_len {s : Si} (h : s.fit) : s.words.length ≤ 5 ∧ ∀ z ∈ s.words, z.length ≤ 54 := by
  have hl := Parts.lens h
  have l1 : ("=" : Str).length ≤ 54 := by decide +kernel
  have l2 : ("empty" : Str).length ≤ 54 := by decide +kernel
  have l3 : ("0" : Str).length ≤ 54 := by decide +kernel
  have l4 : ("up" : Str).length ≤ 54 := by decide +kernel
  have l5 : ("down" : Str).length ≤ 54 := by decide +kernel
  have l6 : ("do" : Str).length ≤ 54 := by decide +kernel
  have l7 : ("chooses" : Str).length ≤ 54 := by decide +kernel
  have l8 : ("from" : Str).length ≤ 54 := by decide +kernel
  have l9 : ("wins" : Str).length ≤ 54 := by decide +kernel
  cases s <;> simp only [Si.args, Si.words, List.mem_cons, List.not_mem_nil, or_false, forall_eq_or_imp, forall_eq, List.length_cons, List.length_nil] at hl ⊢
  · exact ⟨by omega, cell_len hl.1 hl.2.1, l1, by omega⟩
  · exact ⟨by omega, cell_len hl.1 hl.2.1, l1, cell_len hl.2.2.1 hl.2.2.2⟩
  · exact ⟨by omega, cell_len hl.1 hl.2, l1, l2⟩
  · exact ⟨by omega, by omega, l1, l3⟩
  · exact ⟨by omega, l4, by omega⟩
  · exact ⟨by omega, l5, by omega⟩
  · exact ⟨by omega, by omega, l1, by omega⟩
  · exact ⟨by omega, l6, by omega⟩
  · exact ⟨by omega, by omega, l7, cell_len hl.2.1 hl.2.2.1, l8, by omega⟩
  · exact ⟨by omega, by omega, l9⟩
theorem Pl.text_len {p : Pl} (h : p.fit) : p.text.length ≤ 165 := by
  obtain ⟨h1, h2⟩ := Pl.words_len h
  have h3 := jn_len p.words 54 h2
  have : p.words.length * 55 ≤ 3 * 55 := Nat.mul_le_mul_right _ h1
  unfold Pl.text
  omega
theorem Tst.text_len {t : Tst} (h : t.fit) : t.text.length ≤ 330 := by
  obtain ⟨h1, h2⟩ := Tst.words_len h.1
  have h3 := jn_len t.words 54 h2
  have h4 := h.2
  have : t.words.length * 55 ≤ 6 * 55 := Nat.mul_le_mul_right _ (by omega)
  unfold Tst.text
  omega
theorem Si.text_len {s : Si} (h : s.fit) : s.text.length ≤ 275 := by
  obtain ⟨h1, h2⟩ := Si.words_len h
  have h3 := jn_len s.words 54 h2
  have : s.words.length * 55 ≤ 5 * 55 := Nat.mul_le_mul_right _ h1
  unfold Si.text
  omega
end NP
/-! NPWrite -/
namespace NP
open PySem PySem.Spec PyProof.Rows L2 TL
section
variable {P : Program} {w : World} {K : PySem.W.Frag} {mg : Str → Option Value} {base : Heap}
theorem mil {z : Str} (h : z.length ≤ 26) : z.length ≤ 1000000 := Nat.le_trans h (by decide)
def sp_text_of_plain_test : Sp := fun vs H Q _ => ∃ (p : Pl) (v : V), vs = [v] ∧ Rp H (encWs p.ws) v ∧ p.fit ∧ Q (.str p.text) H
abbrev nn_text_of_plain_test : List Str := ["test", "tape", "index", "letter", "other", "place"]
theorem sc_text_of_plain_test : FnScope nn_text_of_plain_test ["test"] d_text_of_plain_test.scope := ⟨rfl, rfl, rfl, by decide +kernel, rfl, by decide +kernel, by decide +kernel⟩
theorem ok_text_of_plain_test (T : Top w K mg) : OK P w K mg base 1 "text_of_plain_test" ["test"] sp_text_of_plain_test := by
  refine Has.ok (d := d_text_of_plain_test) (T.has 44 42 rfl rfl rfl rfl rfl) sc_text_of_plain_test (fun _ _ _ _ _ _ us hl => match us, hl with | [_], _ => rfl) (by rintro _ _ _ _ ⟨_, _, rfl, _⟩; rfl) (fun f cdv A outer s H vs Q E hRm h => ?_)
  obtain ⟨p, v, rfl, hv, hf, q⟩ := h
  obtain ⟨a, rfl, ha⟩ := Rp.ws hv
  refine ⟨_, (pss_cons (ps_match (pv 0) (mcs_cons rfl sc_text_of_plain_test.nd (mps_str (mps_cap (i := 1) rfl rfl (mps_cap (i := 2) rfl rfl (mps_cap (i := 3) rfl rfl mps_nil)))) (pss_one (ps_ret (pe_joinedB (.cons (pe_fmtS (pv 1)) (.cons pe_str (.cons (pe_fmtS (pv 2)) (.cons pe_str (.cons (pe_fmtS (pv 3)) .nil))))))))
      (mcs_cons rfl sc_text_of_plain_test.nd (mps_str (mps_cap (i := 1) rfl rfl (mps_cap (i := 2) rfl rfl (mps_cap (i := 4) rfl rfl (mps_cap (i := 5) rfl rfl mps_nil))))) (pss_one (ps_ret (pe_joinedB (.cons (pe_fmtS (pv 1)) (.cons pe_str (.cons (pe_fmtS (pv 2)) (.cons pe_str (.cons (pe_fmtS (pv 4)) (.cons pe_str (.cons (pe_fmtS (pv 5)) (.cons pe_str .nil)))))))))))
      (mcs_cons rfl sc_text_of_plain_test.nd (mps_str (mps_cap (i := 1) rfl rfl (mps_cap (i := 2) rfl rfl mps_nil))) (pss_one (ps_ret (pe_joinedB (.cons (pe_fmtS (pv 1)) (.cons pe_str (.cons (pe_fmtS (pv 2)) (.cons pe_str .nil)))))))
      (mcs_cons rfl sc_text_of_plain_test.nd (mps_str (mps_cap (i := 1) rfl rfl (mps_cap (i := 2) rfl rfl mps_nil))) (pss_one (ps_ret (pe_joinedB (.cons (pe_fmtS (pv 1)) (.cons pe_str (.cons (pe_fmtS (pv 2)) .nil))))))
      mcs_nil)))))
    (pss_one (ps_ret (pe_joinedB (.cons (pe_fmtS (pe_ix ixT (pv 0) pe_int (fun _ _ => rfl))) (.cons pe_str (.cons (pe_fmtS (pe_ix ixT (pv 0) pe_int (fun _ _ => rfl))) .nil))))))), ?_⟩
  have hl := Parts.lens hf
  have l1 : ("[" : Str).length ≤ 1000000 := by decide +kernel
  have l2 : ("] is " : Str).length ≤ 1000000 := by decide +kernel
  have l3 : ("] equals " : Str).length ≤ 1000000 := by decide +kernel
  have l4 : ("]" : Str).length ≤ 1000000 := by decide +kernel
  have l5 : ("] empty" : Str).length ≤ 1000000 := by decide +kernel
  have l6 : (" has " : Str).length ≤ 1000000 := by decide +kernel
  have l7 : (" = " : Str).length ≤ 1000000 := by decide +kernel
  refine ⟨_, rfl, a, p.ws, rfl, .inr (.of ha), ?_⟩
  cases p with
  | is x i z =>
    simp only [Pl.args, List.mem_cons, List.not_mem_nil, or_false, forall_eq_or_imp, forall_eq] at hl
    have m1 := mil hl.1
    have m2 := mil hl.2.1
    have m3 := mil hl.2.2
    refine .inr (.inr ⟨_, .val (.cap (.cap (.cap .nil))), ?_⟩)
    rw [← tx_is] at q
    exact ⟨_, rfl, _, rfl, m1, _, rfl, m1, _, rfl, l1, _, rfl, _, rfl, m2, _, rfl, m2, _, rfl, l2, _, rfl, _, rfl, m3, _, rfl, m3, q⟩
  | equal x i z j =>
    simp only [Pl.args, List.mem_cons, List.not_mem_nil, or_false, forall_eq_or_imp, forall_eq] at hl
    have m1 := mil hl.1
    have m2 := mil hl.2.1
    have m3 := mil hl.2.2.1
    have m4 := mil hl.2.2.2
    refine .inl ⟨by simp [Pl.ws], .inr (.inr ⟨_, .val (.cap (.cap (.cap (.cap .nil)))), ?_⟩)⟩
    rw [← tx_equal] at q
    exact ⟨_, rfl, _, rfl, m1, _, rfl, m1, _, rfl, l1, _, rfl, _, rfl, m2, _, rfl, m2, _, rfl, l3, _, rfl, _, rfl, m3, _, rfl, m3, _, rfl, l1, _, rfl, _, rfl, m4, _, rfl, m4, _, rfl, l4, q⟩
  | empty x i =>
    simp only [Pl.args, List.mem_cons, List.not_mem_nil, or_false, forall_eq_or_imp, forall_eq] at hl
    have m1 := mil hl.1
    have m2 := mil hl.2
    refine .inl ⟨by simp [Pl.ws], .inl ⟨by simp [Pl.ws], .inr (.inr ⟨_, .val (.cap (.cap .nil)), ?_⟩)⟩⟩
    rw [← tx_empty] at q
    exact ⟨_, rfl, _, rfl, m1, _, rfl, m1, _, rfl, l1, _, rfl, _, rfl, m2, _, rfl, m2, _, rfl, l5, q⟩
  | inside x i =>
    simp only [Pl.args, List.mem_cons, List.not_mem_nil, or_false, forall_eq_or_imp, forall_eq] at hl
    have m1 := mil hl.1
    have m2 := mil hl.2
    refine .inl ⟨by simp [Pl.ws], .inl ⟨by simp [Pl.ws], .inr (.inl ⟨.here (by decide +kernel), rfl, .inr (.inr ⟨_, .val (.cap (.cap .nil)), ?_⟩)⟩)⟩⟩
    rw [← tx_inside] at q
    exact ⟨_, rfl, _, rfl, m1, _, rfl, m1, _, rfl, l6, _, rfl, _, rfl, m2, _, rfl, m2, q⟩
  | «at» i j =>
    simp only [Pl.args, List.mem_cons, List.not_mem_nil, or_false, forall_eq_or_imp, forall_eq] at hl
    have m1 := mil hl.1
    have m2 := mil hl.2
    refine .inl ⟨by simp [Pl.ws], .inl ⟨by simp [Pl.ws], .inr (.inl ⟨.here (by decide +kernel), rfl, .inr (.inl ⟨.here (by decide +kernel), rfl, ?_⟩)⟩)⟩⟩
    rw [← tx_at] at q
    exact ⟨_, rfl, a, _, 1, _, rfl, rfl, ha, rfl, _, rfl, m1, _, rfl, m1, _, rfl, l7, _, rfl, a, _, 2, _, rfl, rfl, ha, rfl, _, rfl, m2, _, rfl, m2, q⟩
def sp_text_of_test : Sp := fun vs H Q _ => ∃ (t : Tst) (v : V), vs = [v] ∧ Rp H t.enc v ∧ t.fit ∧ Q (.str t.text) H
abbrev nn_text_of_test : List Str := ["test", "many"]
theorem sc_text_of_test : FnScope nn_text_of_test ["test"] d_text_of_test.scope := ⟨rfl, rfl, rfl, by decide +kernel, rfl, by decide +kernel, by decide +kernel⟩
theorem ok_text_of_test (T : Top w K mg) : OK P w K mg base 2 "text_of_test" ["test"] sp_text_of_test := by
  refine Has.ok (d := d_text_of_test) (T.has 45 43 rfl rfl rfl rfl rfl) sc_text_of_test (fun _ _ _ _ _ _ us hl => match us, hl with | [_], _ => rfl) (by rintro _ _ _ _ ⟨_, _, rfl, _⟩; rfl) (fun f cdv A outer s H vs Q E hRm h => ?_)
  obtain ⟨t, v, rfl, hv, hf, q⟩ := h
  refine ⟨_, (pss_cons (ps_set (i := 1) sc_text_of_test.nd rfl (.inl rfl) pe_int)
    (pss_cons (ps_while PassesOwn.never (pt_cmpR op_eq (pe_ix ixT (pv 0) pe_int (fun _ _ => rfl)) pe_str (nomark _)) (pss_one (ps_par (i := 1) (j := 0) rfl sc_text_of_test.nd rfl rfl (by decide) rfl rfl (pa_cons (pe_op op_add (pv 1) pe_int) (pa_cons (pe_ix ixT (pv 0) pe_int (fun _ _ => rfl)) pa_nil)) (by rfl))))
    (pss_one (ps_ret (pe_op op_add_str (pe_op op_mul_str pe_str (pv 1)) (pe_c (ok_text_of_plain_test T) (hRm.mono (by decide)) (by rfl) (pa_cons (pv 0) pa_nil))))))), ?_⟩
  refine ⟨fun m σ H' => H' = H ∧ ∃ (k : Nat) (u : V) (t' : Tst), σ = [some u, some (.int k)] ∧ Rp H t'.enc u ∧ t'.base = t.base ∧ t'.nots = m ∧ k + m = t.nots ∧ t.text = repS "not " k ++ t'.text, ⟨_, rfl, 0, v, t, rfl, hv, rfl, rfl, by omega, ?_⟩, fun m σ H1 hp => ?_⟩
  · exact (s_nil _).symm
  obtain ⟨rfl, k, u, t', rfl, hu, hb, hm, hk, ht⟩ := hp
  cases t' with
  | no t2 =>
    obtain ⟨a, u2, rfl, ha, hr⟩ := Rp.no hu
    have hm' : t2.nots + 1 = m := hm
    refine ⟨_, rfl, a, _, 0, _, rfl, rfl, ha, rfl, rfl, _, rfl, iteDt rfl ⟨_, fun _ _ h => h, ?_⟩⟩
    refine ⟨_, rfl, _, _, rfl, rfl, _, rfl, a, _, 1, _, rfl, rfl, ha, rfl, _, _, rfl, t2.nots, by omega, rfl, k + 1, u2, t2, rfl, hr, hb, rfl, by omega, ?_⟩
    rw [ht, no_text, ← s_assoc]
    congr 1
    refine sx ?_
    rw [tl_append, tl_repS, tl_repS, List.replicate_succ', List.flatten_append]
    simp
  | pl p =>
    obtain ⟨a, rfl, ha⟩ := Rp.ws hu
    have hk' : k = t.nots := by have : 0 = m := hm; omega
    have hfp : p.fit := by
      have e : t.base = p := hb.symm
      rw [← e]
      exact hf.1
    have hz : (repS "not " k).length + p.text.length ≤ sizeLine := by
      have h1 := Pl.text_len hfp
      have h2 := hf.2
      have h3 : (repS "not " k).length = k * 4 := by
        rw [len_tl, tl_repS]
        simp [show (tl ("not " : Str)).length = 4 by decide +kernel]
      have : 1000 ≤ sizeLine := by decide
      omega
    have hw : V.str p.word ≠ .str "not" := vs_ne (by cases p <;> simp only [Pl.word] <;> decide +kernel)
    have ha' := ha
    rw [p.ws_eq] at ha'
    refine ⟨_, rfl, a, _, 0, _, rfl, rfl, ha', rfl, rfl, _, rfl, iteDf hw ?_⟩
    refine ⟨_, rfl, _, k, rfl, rfl, by have := hf.2; omega, by decide +kernel, _, rfl, p, .ref a, rfl, hu, hfp, _, _, rfl, rfl, hz, ?_⟩
    have e : t.text = repS "not " k ++ p.text := ht
    rw [e] at q
    exact q
end
end NP
/-! NPLines2 -/
namespace NP
open PySem PySem.Spec PyProof.Rows L2 TL
/-! ## a program, line by line -/
mutual
def cmdLns : Nat → Cmd → List (Nat × Ln)
  | k, .si s => [(k, .si s)]
  | k, .re p cs => (k, .re p) :: (csLns (k + 1) cs ++ [(k, .fin)])
  | k, .if_ t cs os => (k, .if_ t) :: (csLns (k + 1) cs ++ ((match os with | [] => [] | _ :: _ => (k, .els) :: csLns (k + 1) os) ++ [(k, .fin)]))
def csLns : Nat → List Cmd → List (Nat × Ln)
  | _, [] => []
  | k, c :: cs => cmdLns k c ++ csLns k cs
end
def procLns (r : Str × List Cmd) : List (Nat × Ln) := (0, .proc r.1) :: (csLns 1 r.2 ++ [(0, .fin)])
def scrLns (s : Scr) : List (Nat × Ln) := s.tapes.map (fun h => (0, .tape h.1 h.2)) ++ (s.idx.map (fun h => (0, .idx h.1 h.2)) ++ s.procs.flatMap procLns)
/-- a line with its blanks -/
def lnS (x : Nat × Ln) : Str := repS "  " x.1 ++ x.2.text
def scrText (s : Scr) : Str := Str.join "\n" ((scrLns s).map lnS)
theorem csLns_app (k : Nat) : ∀ a b : List Cmd, csLns k (a ++ b) = csLns k a ++ csLns k b
  | [], _ => rfl
  | c :: a, b => by
    show cmdLns k c ++ csLns k (a ++ b) = cmdLns k c ++ csLns k a ++ csLns k b
    rw [csLns_app k a b, List.append_assoc]
theorem csLns_flat (k : Nat) : ∀ cs : List Cmd, csLns k cs = cs.flatMap (cmdLns k)
  | [] => rfl
  | c :: cs => by
    show cmdLns k c ++ csLns k cs = _
    rw [csLns_flat k cs]
    rfl
theorem re_text (p : Poly) : (Ln.re p).text = "repeat " ++ textPoly p := by
  show jn ("repeat" :: polyWords p) = _
  rw [jn_cons _ (poly_ne p), jn_poly, ← s_assoc]
  rfl
theorem if_text (t : Tst) : (Ln.if_ t).text = "if " ++ t.text := by
  show jn ("if" :: t.words) = _
  rw [jn_cons _ t.words_ne, ← s_assoc]
  rfl
theorem proc_text (n : Str) : (Ln.proc n).text = "procedure " ++ n := by
  show jn ["procedure", n] = _
  rw [jn_cons _ (by simp), jn_one, ← s_assoc]
  rfl
theorem els_text : Ln.els.text = "else" := jn_one _
theorem fin_text : Ln.fin.text = "end" := jn_one _
theorem tape_text (n : Str) (p : Poly) : (Ln.tape n p).text = catS ["tape ", n, " size ", textPoly p] := by
  show jn ("tape" :: n :: "size" :: polyWords p) = "tape " ++ (n ++ (" size " ++ textPoly p))
  rw [jn_cons _ (by simp), jn_cons _ (by simp), jn_cons _ (poly_ne p), jn_poly]
  refine sx ?_
  have e1 : tl ("tape " : Str) = tl ("tape" : Str) ++ tl (" " : Str) := by decide +kernel
  have e2 : tl (" size " : Str) = tl (" " : Str) ++ (tl ("size" : Str) ++ tl (" " : Str)) := by decide +kernel
  simp only [tl_append, e1, e2, List.append_assoc]
theorem idx_text (n : Str) (p : Poly) : (Ln.idx n p).text = catS ["index ", n, " to ", textPoly p] := by
  show jn ("index" :: n :: "to" :: polyWords p) = "index " ++ (n ++ (" to " ++ textPoly p))
  rw [jn_cons _ (by simp), jn_cons _ (by simp), jn_cons _ (poly_ne p), jn_poly]
  refine sx ?_
  have e1 : tl ("index " : Str) = tl ("index" : Str) ++ tl (" " : Str) := by decide +kernel
  have e2 : tl (" to " : Str) = tl (" " : Str) ++ (tl ("to" : Str) ++ tl (" " : Str)) := by decide +kernel
  simp only [tl_append, e1, e2, List.append_assoc]
/-! ### lengths -/
def Ln.fit : Ln → Prop
  | .tape n p => Nm n ∧ PolyOk p
  | .idx n p => Nm n ∧ PolyOk p
  | .proc n => Nm n
  | .si s => s.fit
  | .re p => PolyOk p
  | .if_ t => t.fit
  | .els => True
  | .fin => True
theorem nm_len {z : Str} (h : Nm z) : z.length ≤ 26 := (by decide +kernel : ∀ z ∈ allNames, z.length ≤ 26) z h
theorem Ln.text_len {l : Ln} (h : l.fit) : l.text.length ≤ 340 := by
  cases l with
  | tape n p =>
    have h1 := nm_len h.1
    have h2 := tpoly_len h.2
    rw [tape_text]
    show ("tape " ++ (n ++ (" size " ++ textPoly p))).length ≤ _
    have e1 : ("tape " : Str).length = 5 := by decide +kernel
    have e2 : (" size " : Str).length = 6 := by decide +kernel
    rw [s_len, s_len, s_len]
    omega
  | idx n p =>
    have h1 := nm_len h.1
    have h2 := tpoly_len h.2
    rw [idx_text]
    show ("index " ++ (n ++ (" to " ++ textPoly p))).length ≤ _
    have e1 : ("index " : Str).length = 6 := by decide +kernel
    have e2 : (" to " : Str).length = 4 := by decide +kernel
    rw [s_len, s_len, s_len]
    omega
  | proc n =>
    have h1 := nm_len h
    rw [proc_text, s_len]
    have e1 : ("procedure " : Str).length = 10 := by decide +kernel
    omega
  | si s =>
    have := Si.text_len (s := s) h
    show (Si.text s).length ≤ 340
    omega
  | re p =>
    have h2 := tpoly_len h
    rw [re_text, s_len]
    have e1 : ("repeat " : Str).length = 7 := by decide +kernel
    omega
  | if_ t =>
    have h2 := Tst.text_len (t := t) h
    rw [if_text, s_len]
    have e1 : ("if " : Str).length = 3 := by decide +kernel
    omega
  | els => rw [els_text]; decide +kernel
  | fin => rw [fin_text]; decide +kernel
mutual
theorem cmdLns_fit : ∀ (k : Nat) (c : Cmd), c.fit → ∀ x ∈ cmdLns k c, x.2.fit ∧ x.1 ≤ k + c.cnt
  | k, .si s, h => fun x hx => by
    rw [List.mem_singleton.mp hx]
    exact ⟨h, by simp⟩
  | k, .re p cs, h => fun x hx => by
    have ih := csLns_fit (k + 1) cs h.2
    have hc : (Cmd.re p cs).cnt = 1 + cnts cs := rfl
    rw [hc]
    rcases List.mem_cons.mp hx with e | hx
    · rw [e]; exact ⟨h.1, Nat.le_add_right _ _⟩
    · rcases List.mem_append.mp hx with hx | hx
      · have := ih x hx
        exact ⟨this.1, by omega⟩
      · rw [List.mem_singleton.mp hx]; exact ⟨trivial, Nat.le_add_right _ _⟩
  | k, .if_ t cs os, h => fun x hx => by
    have ih := csLns_fit (k + 1) cs h.2.1
    have ih2 := csLns_fit (k + 1) os h.2.2
    have hc : (Cmd.if_ t cs os).cnt = 1 + cnts cs + cnts os := rfl
    rw [hc]
    rcases List.mem_cons.mp hx with e | hx
    · rw [e]; exact ⟨h.1, by show k ≤ _; omega⟩
    · rcases List.mem_append.mp hx with hx | hx
      · have := ih x hx
        exact ⟨this.1, by omega⟩
      · rcases List.mem_append.mp hx with hx | hx
        · cases os with
          | nil => cases hx
          | cons o r =>
            rcases List.mem_cons.mp hx with e | hx
            · rw [e]; exact ⟨trivial, by show k ≤ _; omega⟩
            · have := ih2 x hx
              exact ⟨this.1, by omega⟩
        · rw [List.mem_singleton.mp hx]; exact ⟨trivial, by show k ≤ _; omega⟩
theorem csLns_fit : ∀ (k : Nat) (cs : List Cmd), fits cs → ∀ x ∈ csLns k cs, x.2.fit ∧ x.1 ≤ k + cnts cs
  | _, [], _ => fun x hx => by cases hx
  | k, c :: cs, h => fun x hx => by
    have hc : cnts (c :: cs) = c.cnt + cnts cs := rfl
    rw [hc]
    rcases List.mem_append.mp hx with hx | hx
    · have := cmdLns_fit k c h.1 x hx
      exact ⟨this.1, by omega⟩
    · have := csLns_fit k cs h.2 x hx
      exact ⟨this.1, by omega⟩
end
mutual
theorem cmdLns_cnt : ∀ (k : Nat) (c : Cmd), (cmdLns k c).length ≤ 4 * c.cnt
  | k, .si s => by show 1 ≤ 4 * 1; omega
  | k, .re p cs => by
    have ih := csLns_cnt (k + 1) cs
    show (_ :: (csLns (k + 1) cs ++ [_])).length ≤ 4 * (1 + cnts cs)
    simp only [List.length_cons, List.length_append, List.length_nil]
    omega
  | k, .if_ t cs os => by
    have ih := csLns_cnt (k + 1) cs
    have ih2 := csLns_cnt (k + 1) os
    show (_ :: (csLns (k + 1) cs ++ (_ ++ [_]))).length ≤ 4 * (1 + cnts cs + cnts os)
    cases os with
    | nil =>
      simp only [List.length_cons, List.length_append, List.length_nil]
      omega
    | cons o r =>
      simp only [List.length_cons, List.length_append, List.length_nil]
      omega
theorem csLns_cnt : ∀ (k : Nat) (cs : List Cmd), (csLns k cs).length ≤ 4 * cnts cs
  | _, [] => Nat.zero_le _
  | k, c :: cs => by
    have h1 := cmdLns_cnt k c
    have h2 := csLns_cnt k cs
    show (cmdLns k c ++ csLns k cs).length ≤ 4 * (c.cnt + cnts cs)
    rw [List.length_append]
    omega
end
theorem lnS_len {x : Nat × Ln} (h : x.2.fit) (hk : x.1 ≤ 1000) : (lnS x).length ≤ 2400 := by
  unfold lnS
  have h1 := Ln.text_len h
  have h2 : (repS "  " x.1).length = x.1 * 2 := by
    rw [len_tl, tl_repS]
    simp [show (tl ("  " : Str)).length = 2 by decide +kernel]
  rw [s_len, h2]
  omega
/-! ### the stack of what is still to be written -/
abbrev Wt : Type := Nat × (Ln ⊕ Cmd)
def wOut (x : Wt) : List (Nat × Ln) := match x.2 with
  | .inl l => [(x.1, l)]
  | .inr c => cmdLns x.1 c
def wCnt (x : Wt) : Nat := match x.2 with
  | .inl _ => 1
  | .inr c => 4 * c.cnt
def unf : Cmd → List Wt
  | .si s => [(0, .inl (.si s))]
  | .re p cs => (0, .inl (.re p)) :: (cs.map (fun c => (1, .inr c)) ++ [(0, .inl .fin)])
  | .if_ t cs os => (0, .inl (.if_ t)) :: (cs.map (fun c => (1, .inr c)) ++ ((match os with | [] => [] | _ :: _ => (0, .inl .els) :: os.map (fun c => (1, .inr c))) ++ [(0, .inl .fin)]))
def sh (k : Nat) (x : Wt) : Wt := (k + x.1, x.2)
theorem out_sub (k : Nat) : ∀ cs : List Cmd, ((cs.map (fun c => ((1, .inr c) : Wt))).map (sh k)).flatMap wOut = csLns (k + 1) cs
  | [] => rfl
  | c :: cs => by
    show cmdLns (k + 1) c ++ ((cs.map (fun c => ((1, .inr c) : Wt))).map (sh k)).flatMap wOut = _
    rw [out_sub k cs]
    rfl
theorem unf_out (k : Nat) (c : Cmd) : ((unf c).map (sh k)).flatMap wOut = cmdLns k c := by
  cases c with
  | si s => rfl
  | re p cs =>
    show [(k + 0, Ln.re p)] ++ (((cs.map (fun c => ((1, .inr c) : Wt))) ++ [((0, .inl .fin) : Wt)]).map (sh k)).flatMap wOut = _
    rw [List.map_append, List.flatMap_append, out_sub]
    rfl
  | if_ t cs os =>
    show [(k + 0, Ln.if_ t)] ++ (((cs.map (fun c => ((1, .inr c) : Wt))) ++ (_ ++ [((0, .inl .fin) : Wt)])).map (sh k)).flatMap wOut = _
    rw [List.map_append, List.flatMap_append, out_sub, List.map_append, List.flatMap_append]
    cases os with
    | nil => rfl
    | cons o r =>
      show _ ++ (_ ++ (([(k + 0, Ln.els)] ++ (((o :: r).map (fun c => ((1, .inr c) : Wt))).map (sh k)).flatMap wOut) ++ _)) = _
      rw [out_sub]
      rfl
def wSum (xs : List Wt) : Nat := (xs.map wCnt).sum
theorem wSum_app (a b : List Wt) : wSum (a ++ b) = wSum a + wSum b := by
  unfold wSum
  rw [List.map_append, List.sum_append]
theorem wSum_sub : ∀ cs : List Cmd, wSum (cs.map (fun c => ((1, .inr c) : Wt))) = 4 * cnts cs
  | [] => rfl
  | c :: cs => by
    show 4 * c.cnt + wSum (cs.map (fun c => ((1, .inr c) : Wt))) = 4 * (c.cnt + cnts cs)
    rw [wSum_sub cs]
    omega
theorem unf_cnt (c : Cmd) : wSum (unf c) < 4 * c.cnt := by
  cases c with
  | si s => show 1 + 0 < 4 * 1; omega
  | re p cs =>
    show 1 + wSum (cs.map (fun c => ((1, .inr c) : Wt)) ++ [(0, .inl .fin)]) < 4 * (1 + cnts cs)
    rw [wSum_app, wSum_sub]
    show 1 + (4 * cnts cs + 1) < _
    omega
  | if_ t cs os =>
    show 1 + wSum (cs.map (fun c => ((1, .inr c) : Wt)) ++ (_ ++ [(0, .inl .fin)])) < 4 * (1 + cnts cs + cnts os)
    rw [wSum_app, wSum_sub, wSum_app]
    cases os with
    | nil =>
      show 1 + (4 * cnts cs + (0 + 1)) < _
      omega
    | cons o r =>
      show 1 + (4 * cnts cs + ((1 + wSum ((o :: r).map (fun c => ((1, .inr c) : Wt)))) + 1)) < _
      rw [wSum_sub]
      omega
theorem wSum_sh (k : Nat) (xs : List Wt) : wSum (xs.map (sh k)) = wSum xs := by
  unfold wSum
  rw [List.map_map]
  congr 1
theorem wSum_rev (xs : List Wt) : wSum xs.reverse = wSum xs := by
  unfold wSum
  rw [List.map_reverse, List.sum_reverse]
theorem wSum_len : ∀ xs : List Wt, xs.length ≤ wSum xs
  | [] => Nat.zero_le _
  | x :: xs => by
    have h1 := wSum_len xs
    have h2 : 1 ≤ wCnt x := by
      unfold wCnt
      split
      · exact Nat.le_refl _
      · rename_i c _
        have := cnt_pos c
        omega
    show xs.length + 1 ≤ wCnt x + wSum xs
    omega
def wFit (x : Wt) : Prop := match x.2 with
  | .inl l => l.fit
  | .inr c => c.fit
theorem unf_fit {c : Cmd} (h : c.fit) : ∀ x ∈ unf c, wFit x ∧ x.1 ≤ 1 := by
  have sub : ∀ cs : List Cmd, fits cs → ∀ x ∈ cs.map (fun c => ((1, .inr c) : Wt)), wFit x ∧ x.1 ≤ 1 := fun cs hc x hx => by
    obtain ⟨d, hd, rfl⟩ := List.mem_map.mp hx
    exact ⟨fits_all.mp hc d hd, Nat.le_refl _⟩
  cases c with
  | si s =>
    intro x hx
    rw [List.mem_singleton.mp hx]
    exact ⟨h, Nat.zero_le _⟩
  | re p cs =>
    intro x hx
    rcases List.mem_cons.mp hx with e | hx
    · rw [e]; exact ⟨h.1, Nat.zero_le _⟩
    · rcases List.mem_append.mp hx with hx | hx
      · exact sub cs h.2 x hx
      · rw [List.mem_singleton.mp hx]; exact ⟨trivial, Nat.zero_le _⟩
  | if_ t cs os =>
    intro x hx
    rcases List.mem_cons.mp hx with e | hx
    · rw [e]; exact ⟨h.1, Nat.zero_le _⟩
    · rcases List.mem_append.mp hx with hx | hx
      · exact sub cs h.2.1 x hx
      · rcases List.mem_append.mp hx with hx | hx
        · cases os with
          | nil => cases hx
          | cons o r =>
            rcases List.mem_cons.mp hx with e | hx
            · rw [e]; exact ⟨trivial, Nat.zero_le _⟩
            · exact sub _ h.2.2 x hx
        · rw [List.mem_singleton.mp hx]; exact ⟨trivial, Nat.zero_le _⟩
/-! in the heap -/
def RpW (H : Hp) (x : Wt) (v : V) : Prop := ∃ (a : Addr) (u : V), v = .ref a ∧ H a = some (.tup [.int (x.1 : Nat), u]) ∧ (match x.2 with
  | .inl l => u = .str l.text
  | .inr c => Rp H c.enc u)
theorem RpW.tk {H H' : Hp} (k : TK H H') {x : Wt} {v : V} (h : RpW H x v) : RpW H' x v := by
  obtain ⟨a, u, e, ha, r⟩ := h
  refine ⟨a, u, e, k _ _ ha, ?_⟩
  obtain ⟨n, y⟩ := x
  cases y with
  | inl l => exact r
  | inr c => exact Rp.tk k r
/-- item by item -/
def All2 {α : Type} (R : α → V → Prop) : List α → List V → Prop
  | [], xs => xs = []
  | a :: as, xs => ∃ v vs, xs = v :: vs ∧ R a v ∧ All2 R as vs
theorem All2.mono {α : Type} {R S : α → V → Prop} (h : ∀ a v, R a v → S a v) : ∀ {as : List α} {xs : List V}, All2 R as xs → All2 S as xs
  | [], _, e => e
  | _ :: _, _, ⟨v, vs, e, r, t⟩ => ⟨v, vs, e, h _ _ r, All2.mono h t⟩
theorem All2.len {α : Type} {R : α → V → Prop} : ∀ {as : List α} {xs : List V}, All2 R as xs → xs.length = as.length
  | [], _, e => by rw [show _ = _ from e]; rfl
  | _ :: _, _, ⟨_, _, e, _, t⟩ => by rw [e, List.length_cons, List.length_cons, All2.len t]
theorem All2.app {α : Type} {R : α → V → Prop} : ∀ {as bs : List α} {xs ys : List V}, All2 R as xs → All2 R bs ys → All2 R (as ++ bs) (xs ++ ys)
  | [], _, _, _, h, r => by rw [show _ = _ from h]; exact r
  | _ :: _, _, _, _, ⟨v, vs, e, h, t⟩, r => by subst e; exact ⟨v, vs ++ _, rfl, h, All2.app t r⟩
theorem All2.split {α : Type} {R : α → V → Prop} : ∀ {as bs : List α} {zs : List V}, All2 R (as ++ bs) zs → ∃ xs ys, zs = xs ++ ys ∧ All2 R as xs ∧ All2 R bs ys
  | [], _, zs, h => ⟨[], zs, rfl, rfl, h⟩
  | a :: as, bs, _, ⟨v, vs, e, h, t⟩ => by
    subst e
    obtain ⟨xs, ys, e, h1, h2⟩ := All2.split (as := as) t
    exact ⟨v :: xs, ys, by rw [e]; rfl, ⟨v, xs, rfl, h, h1⟩, h2⟩
theorem All2.snoc {α : Type} {R : α → V → Prop} {as : List α} {a : α} {zs : List V} (r : All2 R (as ++ [a]) zs) : ∃ ys x, zs = ys ++ [x] ∧ All2 R as ys ∧ R a x := by
  obtain ⟨ys, us, e, h1, h2⟩ := All2.split r
  obtain ⟨v, vs, e2, h3, h4⟩ := h2
  cases h4
  exact ⟨ys, v, by rw [e, e2], h1, h3⟩
theorem All2.one {α : Type} {R : α → V → Prop} {a : α} {x : V} (h : R a x) : All2 R [a] [x] := ⟨x, [], rfl, h, rfl⟩
theorem All2.at_ {α : Type} {R : α → V → Prop} : ∀ {as : List α} {xs : List V} {i : Nat} {x : V}, All2 R as xs → xs[i]? = some x → ∃ a, as[i]? = some a ∧ R a x
  | [], _, _, _, h, e => by rw [show _ = _ from h] at e; simp at e
  | a :: _, _, 0, _, ⟨_, _, q, h, _⟩, e => by
    subst q
    cases e
    exact ⟨a, rfl, h⟩
  | _ :: _, _, i + 1, _, ⟨_, _, q, _, r⟩, e => by
    subst q
    exact All2.at_ (i := i) r e
theorem All2.of {α : Type} {R : α → V → Prop} : ∀ {as : List α} {xs : List V}, xs.length = as.length → (∀ (i : Nat) (a : α) (x : V), as[i]? = some a → xs[i]? = some x → R a x) → All2 R as xs
  | [], [], _, _ => rfl
  | _ :: _, x :: xs, l, h => ⟨x, xs, rfl, h 0 _ _ rfl rfl, All2.of (Nat.succ.inj l) fun i d x e1 e2 => h (i + 1) d x e1 e2⟩
theorem All2.rev {α : Type} {R : α → V → Prop} : ∀ {as : List α} {xs : List V}, All2 R as xs → All2 R as.reverse xs.reverse
  | [], _, h => by rw [show _ = _ from h]; rfl
  | a :: as, _, ⟨v, vs, e, h, t⟩ => by
    subst e
    rw [List.reverse_cons, List.reverse_cons]
    exact All2.app (All2.rev t) (All2.one h)
theorem RpL.all2 {H : Hp} {α : Type} (f : α → PyData) : ∀ {as : List α} {xs : List V}, RpL H (as.map f) xs → All2 (fun a v => Rp H (f a) v) as xs
  | [], _, h => h
  | _ :: _, _, ⟨v, vs, e, h, t⟩ => ⟨v, vs, e, h, RpL.all2 f t⟩
theorem All2.rpl {H : Hp} {α : Type} (f : α → PyData) : ∀ {as : List α} {xs : List V}, All2 (fun a v => Rp H (f a) v) as xs → RpL H (as.map f) xs
  | [], _, h => h
  | _ :: _, _, ⟨v, vs, e, h, t⟩ => ⟨v, vs, e, h, All2.rpl f t⟩
end NP
/-! NPWrite2 -/
namespace NP
open PySem PySem.Spec PyProof.Rows L2 TL
section
variable {P : Program} {w : World} {K : PySem.W.Frag} {mg : Str → Option Value} {base : Heap}
def sp_text_of_simple : Sp := fun vs H Q _ => ∃ (p : Si) (v : V), vs = [v] ∧ Rp H (encWs p.ws) v ∧ p.fit ∧ Q (.str p.text) H
abbrev nn_text_of_simple : List Str := ["command", "tape", "index", "letter", "other", "place", "player", "letters"]
theorem sc_text_of_simple : FnScope nn_text_of_simple ["command"] d_text_of_simple.scope := ⟨rfl, rfl, rfl, by decide +kernel, rfl, by decide +kernel, by decide +kernel⟩
theorem ok_text_of_simple (T : Top w K mg) : OK P w K mg base 1 "text_of_simple" ["command"] sp_text_of_simple := by
  refine Has.ok (d := d_text_of_simple) (T.has 46 44 rfl rfl rfl rfl rfl) sc_text_of_simple (fun _ _ _ _ _ _ us hl => match us, hl with | [_], _ => rfl) (by rintro _ _ _ _ ⟨_, _, rfl, _⟩; rfl) (fun f cdv A outer s H vs Q E hRm h => ?_)
  obtain ⟨p, v, rfl, hv, hf, q⟩ := h
  obtain ⟨a, rfl, ha⟩ := Rp.ws hv
  refine ⟨_, (pss_cons (ps_match (pv 0) (mcs_cons rfl sc_text_of_simple.nd (mps_str (mps_cap (i := 1) rfl rfl (mps_cap (i := 2) rfl rfl (mps_cap (i := 3) rfl rfl mps_nil)))) (pss_one (ps_ret (pe_joinedB (.cons (pe_fmtS (pv 1)) (.cons pe_str (.cons (pe_fmtS (pv 2)) (.cons pe_str (.cons (pe_fmtS (pv 3)) .nil))))))))
      (mcs_cons rfl sc_text_of_simple.nd (mps_str (mps_cap (i := 1) rfl rfl (mps_cap (i := 2) rfl rfl (mps_cap (i := 4) rfl rfl (mps_cap (i := 5) rfl rfl mps_nil))))) (pss_one (ps_ret (pe_joinedB (.cons (pe_fmtS (pv 1)) (.cons pe_str (.cons (pe_fmtS (pv 2)) (.cons pe_str (.cons (pe_fmtS (pv 4)) (.cons pe_str (.cons (pe_fmtS (pv 5)) (.cons pe_str .nil)))))))))))
      (mcs_cons rfl sc_text_of_simple.nd (mps_str (mps_cap (i := 1) rfl rfl (mps_cap (i := 2) rfl rfl mps_nil))) (pss_one (ps_ret (pe_joinedB (.cons (pe_fmtS (pv 1)) (.cons pe_str (.cons (pe_fmtS (pv 2)) (.cons pe_str .nil)))))))
      (mcs_cons rfl sc_text_of_simple.nd (mps_str (mps_cap (i := 2) rfl rfl mps_nil)) (pss_one (ps_ret (pe_joinedB (.cons (pe_fmtS (pv 2)) (.cons pe_str .nil)))))
      (mcs_cons rfl sc_text_of_simple.nd (mps_str (mps_cap (i := 2) rfl rfl (mps_cap (i := 4) rfl rfl mps_nil))) (pss_one (ps_ret (pe_joinedB (.cons (pe_fmtS (pv 2)) (.cons pe_str (.cons (pe_fmtS (pv 4)) .nil))))))
      (mcs_cons rfl sc_text_of_simple.nd (mps_str (mps_cap (i := 6) rfl rfl (mps_cap (i := 1) rfl rfl (mps_cap (i := 2) rfl rfl (mps_cap (i := 7) rfl rfl mps_nil))))) (pss_one (ps_ret (pe_joinedB (.cons (pe_fmtS (pv 6)) (.cons pe_str (.cons (pe_fmtS (pv 1)) (.cons pe_str (.cons (pe_fmtS (pv 2)) (.cons pe_str (.cons (pe_fmtS (pv 7)) .nil))))))))))
      (mcs_cons rfl sc_text_of_simple.nd (mps_str (mps_cap (i := 6) rfl rfl mps_nil)) (pss_one (ps_ret (pe_joinedB (.cons (pe_fmtS (pv 6)) (.cons pe_str .nil)))))
      mcs_nil))))))))
    (pss_one (ps_ret (pe_joinedB (.cons (pe_fmtS (pe_ix ixT (pv 0) pe_int (fun _ _ => rfl))) (.cons pe_str (.cons (pe_fmtS (pe_ix ixT (pv 0) pe_int (fun _ _ => rfl))) .nil))))))), ?_⟩
  have hl := Parts.lens hf
  have l1 : ("[" : Str).length ≤ 1000000 := by decide +kernel
  have l2 : ("] = " : Str).length ≤ 1000000 := by decide +kernel
  have l4 : ("]" : Str).length ≤ 1000000 := by decide +kernel
  have l5 : ("] = empty" : Str).length ≤ 1000000 := by decide +kernel
  have l6 : (" = 0" : Str).length ≤ 1000000 := by decide +kernel
  have l7 : (" = " : Str).length ≤ 1000000 := by decide +kernel
  have l8 : (" chooses " : Str).length ≤ 1000000 := by decide +kernel
  have l9 : ("] from " : Str).length ≤ 1000000 := by decide +kernel
  have l10 : (" wins" : Str).length ≤ 1000000 := by decide +kernel
  have l11 : (" " : Str).length ≤ 1000000 := by decide +kernel
  have l12 : ("up" : Str).length ≤ 1000000 := by decide +kernel
  have l13 : ("down" : Str).length ≤ 1000000 := by decide +kernel
  have l14 : ("do" : Str).length ≤ 1000000 := by decide +kernel
  refine ⟨_, rfl, a, p.ws, rfl, .inr (.of ha), ?_⟩
  cases p <;> simp only [Si.args, List.mem_cons, List.not_mem_nil, or_false, forall_eq_or_imp, forall_eq] at hl
  case set x i z =>
    have m1 := mil hl.1
    have m2 := mil hl.2.1
    have m3 := mil hl.2.2
    refine .inr (.inr ⟨_, .val (.cap (.cap (.cap .nil))), ?_⟩)
    rw [← tx_set] at q
    exact ⟨_, rfl, _, rfl, m1, _, rfl, m1, _, rfl, l1, _, rfl, _, rfl, m2, _, rfl, m2, _, rfl, l2, _, rfl, _, rfl, m3, _, rfl, m3, q⟩
  case copy x i z j =>
    have m1 := mil hl.1
    have m2 := mil hl.2.1
    have m3 := mil hl.2.2.1
    have m4 := mil hl.2.2.2
    refine .inl ⟨by simp [Si.ws], .inr (.inr ⟨_, .val (.cap (.cap (.cap (.cap .nil)))), ?_⟩)⟩
    rw [← tx_copy] at q
    exact ⟨_, rfl, _, rfl, m1, _, rfl, m1, _, rfl, l1, _, rfl, _, rfl, m2, _, rfl, m2, _, rfl, l2, _, rfl, _, rfl, m3, _, rfl, m3, _, rfl, l1, _, rfl, _, rfl, m4, _, rfl, m4, _, rfl, l4, q⟩
  case clear x i =>
    have m1 := mil hl.1
    have m2 := mil hl.2
    refine .inl ⟨by simp [Si.ws], .inl ⟨by simp [Si.ws], .inr (.inr ⟨_, .val (.cap (.cap .nil)), ?_⟩)⟩⟩
    rw [← tx_clear] at q
    exact ⟨_, rfl, _, rfl, m1, _, rfl, m1, _, rfl, l1, _, rfl, _, rfl, m2, _, rfl, m2, _, rfl, l5, q⟩
  case zero i =>
    have m1 := mil hl
    refine .inl ⟨by simp [Si.ws], .inl ⟨by simp [Si.ws], .inl ⟨by simp [Si.ws], .inr (.inr ⟨_, .val (.cap .nil), ?_⟩)⟩⟩⟩
    rw [← tx_zero] at q
    exact ⟨_, rfl, _, rfl, m1, _, rfl, m1, _, rfl, l6, q⟩
  case up i =>
    have m1 := mil hl
    refine .inl ⟨by simp [Si.ws], .inl ⟨by simp [Si.ws], .inl ⟨by simp [Si.ws], .inr (.inl ⟨.here (by decide +kernel), rfl, .inl ⟨by simp [Si.ws], .inl ⟨by simp [Si.ws], .inr (.inl ⟨.here (by decide +kernel), rfl, ?_⟩)⟩⟩⟩)⟩⟩⟩
    have q : Q (.str (jn ["up", i])) H := q
    rw [← tx_two] at q
    exact ⟨_, rfl, a, _, 0, _, rfl, rfl, ha, rfl, _, rfl, l12, _, rfl, l12, _, rfl, l11, _, rfl, a, _, 1, _, rfl, rfl, ha, rfl, _, rfl, m1, _, rfl, m1, q⟩
  case down i =>
    have m1 := mil hl
    refine .inl ⟨by simp [Si.ws], .inl ⟨by simp [Si.ws], .inl ⟨by simp [Si.ws], .inr (.inl ⟨.here (by decide +kernel), rfl, .inl ⟨by simp [Si.ws], .inl ⟨by simp [Si.ws], .inr (.inl ⟨.here (by decide +kernel), rfl, ?_⟩)⟩⟩⟩)⟩⟩⟩
    have q : Q (.str (jn ["down", i])) H := q
    rw [← tx_two] at q
    exact ⟨_, rfl, a, _, 0, _, rfl, rfl, ha, rfl, _, rfl, l13, _, rfl, l13, _, rfl, l11, _, rfl, a, _, 1, _, rfl, rfl, ha, rfl, _, rfl, m1, _, rfl, m1, q⟩
  case same i j =>
    have m1 := mil hl.1
    have m2 := mil hl.2
    refine .inl ⟨by simp [Si.ws], .inl ⟨by simp [Si.ws], .inr (.inl ⟨.here (by decide +kernel), rfl, .inl ⟨by simp [Si.ws], .inr (.inr ⟨_, .val (.cap (.cap .nil)), ?_⟩)⟩⟩)⟩⟩
    rw [← tx_same] at q
    exact ⟨_, rfl, _, rfl, m1, _, rfl, m1, _, rfl, l7, _, rfl, _, rfl, m2, _, rfl, m2, q⟩
  case go p =>
    have m1 := mil hl
    refine .inl ⟨by simp [Si.ws], .inl ⟨by simp [Si.ws], .inl ⟨by simp [Si.ws], .inr (.inl ⟨.here (by decide +kernel), rfl, .inl ⟨by simp [Si.ws], .inl ⟨by simp [Si.ws], .inr (.inl ⟨.here (by decide +kernel), rfl, ?_⟩)⟩⟩⟩)⟩⟩⟩
    have q : Q (.str (jn ["do", p])) H := q
    rw [← tx_two] at q
    exact ⟨_, rfl, a, _, 0, _, rfl, rfl, ha, rfl, _, rfl, l14, _, rfl, l14, _, rfl, l11, _, rfl, a, _, 1, _, rfl, rfl, ha, rfl, _, rfl, m1, _, rfl, m1, q⟩
  case choose pl x i ls =>
    have m1 := mil hl.1
    have m2 := mil hl.2.1
    have m3 := mil hl.2.2.1
    have m4 := mil hl.2.2.2
    refine .inl ⟨by simp [Si.ws], .inr (.inl ⟨.here (by decide +kernel), rfl, .inl ⟨by simp [Si.ws], .inl ⟨by simp [Si.ws], .inl ⟨by simp [Si.ws], .inr (.inr ⟨_, .val (.cap (.cap (.cap (.cap .nil)))), ?_⟩)⟩⟩⟩⟩)⟩
    rw [← tx_choose] at q
    exact ⟨_, rfl, _, rfl, m1, _, rfl, m1, _, rfl, l8, _, rfl, _, rfl, m2, _, rfl, m2, _, rfl, l1, _, rfl, _, rfl, m3, _, rfl, m3, _, rfl, l9, _, rfl, _, rfl, m4, _, rfl, m4, q⟩
  case wins pl =>
    have m1 := mil hl
    refine .inl ⟨by simp [Si.ws], .inl ⟨by simp [Si.ws], .inl ⟨by simp [Si.ws], .inr (.inl ⟨.here (by decide +kernel), rfl, .inl ⟨by simp [Si.ws], .inl ⟨by simp [Si.ws], .inr (.inr ⟨_, .val (.cap .nil), ?_⟩)⟩⟩⟩)⟩⟩⟩
    rw [← tx_wins] at q
    exact ⟨_, rfl, _, rfl, m1, _, rfl, m1, _, rfl, l10, q⟩
def sp_deeper : Sp := fun vs H Q _ => ∃ (cs : List Cmd) (a : Addr) (xs : List V), vs = [.ref a] ∧ H a = some (.tup xs) ∧ RpL H (encs cs) xs ∧ cs.length ≤ 1000 ∧ ∀ l ys H', Same H H' → H l = none → H' l = some (.lst ys) → All2 (RpW H') (cs.map fun c => ((1, .inr c) : Wt)) ys → Q (.ref l) H'
abbrev nn_deeper : List Str := ["commands", "command"]
theorem sc_deeper : FnScope nn_deeper ["commands"] d_deeper.scope := ⟨rfl, rfl, rfl, by decide +kernel, rfl, by decide +kernel, by decide +kernel⟩
theorem ok_deeper (T : Top w K mg) : OK P w K mg base 1 "deeper" ["commands"] sp_deeper := by
  refine Has.ok (d := d_deeper) (T.has 47 45 rfl rfl rfl rfl rfl) sc_deeper (fun _ _ _ _ _ _ us hl => match us, hl with | [_], _ => rfl) (by rintro _ _ _ _ ⟨_, _, _, rfl, _⟩; rfl) (fun f cdv A outer s H vs Q E hRm h => ?_)
  obtain ⟨cs, a, xs, rfl, ha, hr, hc, q⟩ := h
  refine ⟨_, (pss_one (ps_ret (pe_lc (own := [("command", 1)]) rfl sc_deeper.nd (pi_tup (pv 0)) (blkOk_by (N := nn_deeper) (sc := d_deeper.scope) (by decide +kernel)) (fun _ _ _ _ _ => (pg_name (i := 1) sc_deeper.nd rfl (.inl rfl))) (fun _ _ _ _ _ => pts_nil) (fun _ _ _ _ _ => (pe_tup (pa_cons pe_int (pa_cons (pv 1) pa_nil))))))), ?_⟩
  have e1 := RpL.len hr
  rw [encs_map, List.length_map] at e1
  refine ⟨_, rfl, a, rfl, ⟨_, .of ha⟩, fun D hD => ?_⟩
  rw [encs_map] at hr
  have hr2 := RpL.all2 Cmd.enc hr
  refine lc_map walk_tup hD (by omega) (fun H' s1 => .of (s1 _ _ ha)) (fun i y H => ∃ c, cs[i]? = some c ∧ RpW H (1, .inr c) y) (fun i y H H' ⟨c, h1, h2⟩ k => ⟨c, h1, h2.tk k⟩) (fun i x H1 H2 hi s1 hy C k => ?_) fun ys H' hn s1 hD' hrr => ?_
  · obtain ⟨rfl, hx⟩ := hy
    obtain ⟨c, h1, h2⟩ := hr2.at_ hx
    refine ⟨rfl, _, rfl, by show 2 ≤ sizeLine; decide, fun t ht => k _ _ (same_upd ht) ⟨c, h1, t, x, rfl, upd_same, (h2.same s1).same (same_upd ht)⟩⟩
  · refine q D ys H' s1 hD hD' (All2.of (by simp [hn, e1]) fun i d x h1 h2 => ?_)
    obtain ⟨c, h3, h4⟩ := hrr i x h2
    rw [List.getElem?_map, h3] at h1
    cases h1
    exact h4
end
end NP
/-! NPWrite3 -/
namespace NP
open PySem PySem.Spec PyProof.Rows L2 TL
section
variable {P : Program} {w : World} {K : PySem.W.Frag} {mg : Str → Option Value} {base : Heap}
theorem All2.tkW {H H' : Hp} (k : TK H H') {as : List Wt} {xs : List V} (h : All2 (RpW H) as xs) : All2 (RpW H') as xs := h.mono fun _ _ r => r.tk k
theorem Same.new {H H' : Hp} (s : Same H H') {l : Addr} (h : H' l = none) : H l = none := SameX.free (S := []) (same_x s _) h (by simp)
theorem line1 {H : Hp} {t l : Addr} {z : Str} (ln : Ln) (ht : H t = none) (hl : (upd H t (.tup [.int 0, .str z])) l = none) (e : z = ln.text) :
    ∃ H2, upd (upd H t (.tup [.int 0, .str z])) l (.lst [.ref t]) = H2 ∧ Same H H2 ∧ H l = none ∧ H2 l = some (.lst [.ref t]) ∧ RpW H2 (0, .inl ln) (.ref t) := by
  refine ⟨_, rfl, (same_upd ht).trans (same_upd hl), Same.new (same_upd ht) hl, upd_same, t, _, rfl, same_upd hl _ _ upd_same, ?_⟩
  show V.str z = .str ln.text
  rw [e]
/-- two lists of items one behind the other -/
theorem cat1 {H : Hp} {l : Addr} {as bs : List Wt} {xs ys : List V} (h1 : All2 (RpW H) as xs) (h2 : All2 (RpW H) bs ys) (hl : H l = none) :
    ∃ H2, upd H l (.lst (xs ++ ys)) = H2 ∧ Same H H2 ∧ H2 l = some (.lst (xs ++ ys)) ∧ All2 (RpW H2) (as ++ bs) (xs ++ ys) :=
  ⟨_, rfl, same_upd hl, upd_same, (h1.app h2).tkW (same_tk (same_upd hl))⟩
def sp_unfolded : Sp := fun vs H Q _ => ∃ (c : Cmd) (v : V), vs = [v] ∧ Rp H c.enc v ∧ c.fit ∧ c.cnt ≤ 1000 ∧ ∀ l ys H', Same H H' → H l = none → H' l = some (.lst ys) → All2 (RpW H') (unf c) ys → Q (.ref l) H'
abbrev nn_unfolded : List Str := ["command", "parts"]
theorem sc_unfolded : FnScope nn_unfolded ["command"] d_unfolded.scope := ⟨rfl, rfl, rfl, by decide +kernel, rfl, by decide +kernel, by decide +kernel⟩
theorem ok_unfolded (T : Top w K mg) : OK P w K mg base 3 "unfolded" ["command"] sp_unfolded := by
  refine Has.ok (d := d_unfolded) (T.has 48 46 rfl rfl rfl rfl rfl) sc_unfolded (fun _ _ _ _ _ _ us hl => match us, hl with | [_], _ => rfl) (by rintro _ _ _ _ ⟨_, _, rfl, _⟩; rfl) (fun f cdv A outer s H vs Q E hRm h => ?_)
  obtain ⟨c, v, rfl, hv, hf, hc, q⟩ := h
  refine ⟨_, (pss_cons (ps_if (pt_cmpR op_eq (pe_ix ixT (pv 0) pe_int (fun _ _ => rfl)) pe_str (nomark _)) (pss_one (ps_ret (pe_op op_cat (pe_op op_cat (pe_lst (pa_cons (pe_tup (pa_cons pe_int (pa_cons (pe_joinedB (.cons pe_str (.cons (pe_fmtS (pe_c (ok_text_of_poly T) (hRm.mono (by decide)) (by rfl) (pa_cons (pe_ix ixT (pv 0) pe_int (fun _ _ => rfl)) pa_nil))) .nil))) pa_nil))) pa_nil)) (pe_c (ok_deeper T) (hRm.mono (by decide)) (by rfl) (pa_cons (pe_ix ixT (pv 0) pe_int (fun _ _ => rfl)) pa_nil))) (pe_lst (pa_cons (pe_tup (pa_cons pe_int (pa_cons pe_str pa_nil))) pa_nil))))) pss_nil)
    (pss_cons (ps_if (pt_cmpR op_ne (pe_ix ixT (pv 0) pe_int (fun _ _ => rfl)) pe_str (nomark _)) (pss_one (ps_ret (pe_lst (pa_cons (pe_tup (pa_cons pe_int (pa_cons (pe_c (ok_text_of_simple T) (hRm.mono (by decide)) (by rfl) (pa_cons (pv 0) pa_nil)) pa_nil))) pa_nil)))) pss_nil)
    (pss_cons (ps_set (i := 1) sc_unfolded.nd rfl (.inl rfl) (pe_op op_cat (pe_lst (pa_cons (pe_tup (pa_cons pe_int (pa_cons (pe_joinedB (.cons pe_str (.cons (pe_fmtS (pe_c (ok_text_of_test T) (hRm.mono (by decide)) (by rfl) (pa_cons (pe_ix ixT (pv 0) pe_int (fun _ _ => rfl)) pa_nil))) .nil))) pa_nil))) pa_nil)) (pe_c (ok_deeper T) (hRm.mono (by decide)) (by rfl) (pa_cons (pe_ix ixT (pv 0) pe_int (fun _ _ => rfl)) pa_nil))))
    (pss_cons (ps_if (pt_cmpR (op_neNilT hRm.units0) (pe_ix ixT (pv 0) pe_int (fun _ _ => rfl)) (pe_tup pa_nil) (nomark _)) (pss_one (ps_set (i := 1) sc_unfolded.nd rfl (.inl rfl) (pe_op op_cat (pe_op op_cat (pv 1) (pe_lst (pa_cons (pe_tup (pa_cons pe_int (pa_cons pe_str pa_nil))) pa_nil))) (pe_c (ok_deeper T) (hRm.mono (by decide)) (by rfl) (pa_cons (pe_ix ixT (pv 0) pe_int (fun _ _ => rfl)) pa_nil))))) pss_nil)
    (pss_one (ps_ret (pe_op op_cat (pv 1) (pe_lst (pa_cons (pe_tup (pa_cons pe_int (pa_cons pe_str pa_nil))) pa_nil))))))))), ?_⟩
  have big : 5000 ≤ sizeLine := by decide
  cases c with
  | si s =>
    have hv : Rp H (encWs s.ws) v := hv
    have hv0 := hv
    obtain ⟨a, rfl, ha⟩ := Rp.ws hv
    have ha' := ha
    rw [s.ws_eq] at ha'
    refine ⟨_, rfl, a, _, 0, _, rfl, rfl, ha', rfl, rfl, _, rfl, iteDf (vs_ne s.notif.2) ?_⟩
    refine ⟨_, rfl, a, _, 0, _, rfl, rfl, ha', rfl, rfl, _, rfl, iteNt (vs_ne s.notif.1) ?_⟩
    refine ⟨_, rfl, s, .ref a, rfl, hv0, hf, by show 2 ≤ sizeLine; decide, fun t ht => ⟨by show 1 ≤ sizeLine; decide, fun l hl => ?_⟩⟩
    refine q l [.ref t] _ ((same_upd ht).trans (same_upd hl)) (Same.new (same_upd ht) hl) upd_same (.one ⟨t, _, rfl, ?_, rfl⟩)
    rw [upd_ne (ne_of_none (show (upd H t (.tup [.int 0, .str s.text])) t = some _ from upd_same) hl)]
    exact upd_same
  | re p cs =>
    obtain ⟨a, u, b, xs, rfl, ha, hu, hb, hr⟩ := Rp.rep hv
    refine ⟨_, rfl, a, _, 0, _, rfl, rfl, ha, rfl, rfl, _, rfl, iteDt rfl ?_⟩
    have l1 : ("repeat " : Str).length ≤ 1000000 := by decide +kernel
    have l2 : (textPoly p).length ≤ 1000000 := Nat.le_trans (tpoly_len hf.1) (by decide)
    have hcc : 1 + cnts cs ≤ 1000 := hc
    have hcl := cnts_len cs
    refine ⟨_, rfl, l1, _, rfl, a, _, 1, _, rfl, rfl, ha, rfl, p, u, rfl, hu, hf.1, fun H1 s1 => ⟨_, rfl, l2, _, rfl, l2, by show 2 ≤ sizeLine; decide, fun t ht => ⟨by show 1 ≤ sizeLine; decide, fun l hl => ?_⟩⟩⟩
    obtain ⟨H2, e2, g3, g4, g2, g1⟩ := line1 (.re p) ht hl (by rw [re_text]; rfl)
    rw [e2]
    have g3 := s1.trans g3
    refine ⟨_, rfl, a, _, 2, _, rfl, rfl, g3 _ _ ha, rfl, cs, b, xs, rfl, g3 _ _ hb, hr.same g3, by omega, fun l2 ys H3 s3 hl2 hl3 hall => ?_⟩
    have e1 := hall.len
    rw [List.length_map] at e1
    refine ⟨l, l2, _, _, rfl, rfl, s3 _ _ g2, hl3, by simp; omega, fun l4 hl4 => ?_⟩
    obtain ⟨H4, e4, g5, g7, g6⟩ := cat1 (All2.one (g1.tk (same_tk s3))) hall hl4
    rw [e4]
    have g5 := (g3.trans s3).trans g5
    refine ⟨by show 2 ≤ sizeLine; decide, fun t2 ht2 => ⟨by show 1 ≤ sizeLine; decide, fun l5 hl5 => ?_⟩⟩
    obtain ⟨H5, e5, g8, _, g10, g9⟩ := line1 .fin ht2 hl5 (by rw [fin_text])
    rw [e5]
    refine ⟨l4, l5, _, _, rfl, rfl, g8 _ _ g7, g10, by simp; omega, fun l6 hl6 => ?_⟩
    obtain ⟨H6, e6, g11, g12, g13⟩ := cat1 (g6.tkW (same_tk g8)) (.one g9) hl6
    rw [e6]
    exact q l6 _ _ ((g5.trans g8).trans g11) (Same.new (g5.trans g8) hl6) g12 g13
  | if_ t cs os =>
    obtain ⟨a, u, b, c, xs, ys, rfl, ha, hu, hb, hr, hc2, hrc⟩ := Rp.ifc hv
    have l1 : ("if " : Str).length ≤ 1000000 := by decide +kernel
    have l2 : t.text.length ≤ 1000000 := Nat.le_trans (Tst.text_len hf.1) (by decide)
    have hcc : 1 + cnts cs + cnts os ≤ 1000 := hc
    have hcl := cnts_len cs
    have hol := cnts_len os
    refine ⟨_, rfl, a, _, 0, _, rfl, rfl, ha, rfl, rfl, _, rfl, iteDf (by decide +kernel) ?_⟩
    refine ⟨_, rfl, a, _, 0, _, rfl, rfl, ha, rfl, rfl, _, rfl, iteNf rfl ?_⟩
    refine ⟨_, rfl, l1, _, rfl, a, _, 1, _, rfl, rfl, ha, rfl, t, u, rfl, hu, hf.1, _, rfl, l2, _, rfl, l2, by show 2 ≤ sizeLine; decide, fun tt ht => ⟨by show 1 ≤ sizeLine; decide, fun l hl => ?_⟩⟩
    obtain ⟨H2, e2, g3, g4, g2, g1⟩ := line1 (.if_ t) ht hl (by rw [if_text]; rfl)
    rw [e2]
    refine ⟨_, rfl, a, _, 2, _, rfl, rfl, g3 _ _ ha, rfl, cs, b, xs, rfl, g3 _ _ hb, hr.same g3, by omega, fun l2 ys2 H3 s3 hl2 hl3 hall => ?_⟩
    have e1 := hall.len
    rw [List.length_map] at e1
    refine ⟨l, l2, _, _, rfl, rfl, s3 _ _ g2, hl3, by simp; omega, fun l4 hl4 => ?_⟩
    obtain ⟨H4, e4, g5, g7, g6⟩ := cat1 (All2.one (g1.tk (same_tk s3))) hall hl4
    rw [e4]
    have g5 := (g3.trans s3).trans g5
    refine ⟨_, rfl, a, _, 3, _, rfl, rfl, g5 _ _ ha, rfl, by show 0 ≤ sizeLine; decide, fun n hn => ?_⟩
    have sn : Same H4 (upd H4 n (.tup [])) := same_upd hn
    have elo := RpL.len hrc
    rw [encs_map, List.length_map] at elo
    refine ⟨c, n, ys, rfl, rfl, .of (sn _ _ (g5 _ _ hc2)), .of upd_same, _, rfl, ?_⟩
    generalize upd H4 n (.tup []) = H5 at sn ⊢
    have g14 := g5.trans sn
    have g15 := g6.tkW (same_tk sn)
    have g16 := sn _ _ g7
    cases os with
    | nil =>
      have ey : ys = [] := List.length_eq_zero_iff.mp elo
      subst ey
      refine iteF ?_
      refine ⟨_, rfl, by show 2 ≤ sizeLine; decide, fun t2 ht2 => ⟨by show 1 ≤ sizeLine; decide, fun l5 hl5 => ?_⟩⟩
      obtain ⟨H6, e5, g8, _, g10, g9⟩ := line1 .fin ht2 hl5 (by rw [fin_text])
      rw [e5]
      refine ⟨l4, l5, _, _, rfl, rfl, g8 _ _ g16, g10, by simp; omega, fun l6 hl6 => ?_⟩
      obtain ⟨H7, e6, g11, g12, g13⟩ := cat1 (g15.tkW (same_tk g8)) (.one g9) hl6
      rw [e6]
      exact q l6 _ _ ((g14.trans g8).trans g11) (Same.new (g14.trans g8) hl6) g12 (by exact g13)
    | cons o r =>
      have ey : ys.isEmpty = false := by
        cases ys with
        | nil => cases elo
        | cons _ _ => rfl
      rw [ey]
      refine iteT ?_
      refine ⟨_, rfl, by show 2 ≤ sizeLine; decide, fun t2 ht2 => ⟨by show 1 ≤ sizeLine; decide, fun l5 hl5 => ?_⟩⟩
      obtain ⟨H6, e5, g8, _, g10, g9⟩ := line1 .els ht2 hl5 (by rw [els_text])
      rw [e5]
      refine ⟨l4, l5, _, _, rfl, rfl, g8 _ _ g16, g10, by simp; omega, fun l6 hl6 => ?_⟩
      obtain ⟨H7, e6, g11, g12, g13⟩ := cat1 (g15.tkW (same_tk g8)) (.one g9) hl6
      rw [e6]
      have g17 := (g14.trans g8).trans g11
      refine ⟨_, rfl, a, _, 3, _, rfl, rfl, g17 _ _ ha, rfl, o :: r, c, ys, rfl, g17 _ _ hc2, hrc.same g17, by simp at hol ⊢; omega, fun l7 ys7 H8 s8 hl7 hl8 hall7 => ?_⟩
      have e7 := hall7.len
      rw [List.length_map] at e7
      refine ⟨l6, l7, _, _, rfl, rfl, s8 _ _ g12, hl8, by simp at hol e7 ⊢; omega, fun l9 hl9 => ?_⟩
      obtain ⟨H9, e9, g18, g19, g20⟩ := cat1 (g13.tkW (same_tk s8)) hall7 hl9
      rw [e9]
      have g21 := (g17.trans s8).trans g18
      refine ⟨_, rfl, by show 2 ≤ sizeLine; decide, fun t3 ht3 => ⟨by show 1 ≤ sizeLine; decide, fun l10 hl10 => ?_⟩⟩
      obtain ⟨H10, e10, g22, _, g23, g24⟩ := line1 .fin ht3 hl10 (by rw [fin_text])
      rw [e10]
      refine ⟨l9, l10, _, _, rfl, rfl, g22 _ _ g19, g23, by simp at hol e7 ⊢; omega, fun l11 hl11 => ?_⟩
      obtain ⟨H11, e11, g25, g26, g27⟩ := cat1 (g20.tkW (same_tk g22)) (.one g24) hl11
      rw [e11]
      refine q l11 _ _ ((g21.trans g22).trans g25) (Same.new (g21.trans g22) hl11) g26 ?_
      have eu : unf (.if_ t cs (o :: r)) = (((([((0, .inl (.if_ t)) : Wt)] ++ cs.map (fun c => ((1, .inr c) : Wt))) ++ [(0, .inl .els)]) ++ (o :: r).map (fun c => ((1, .inr c) : Wt))) ++ [(0, .inl .fin)]) := by
        simp [unf]
      rw [eu]
      exact g27
end
end NP
/-! NPWrite4 -/
namespace NP
open PySem PySem.Spec PyProof.Rows L2 TL
theorem nil_or_snoc {α : Type} (xs : List α) : xs = [] ∨ ∃ ys y, xs = ys ++ [y] := by
  rcases List.eq_nil_or_concat xs with e | ⟨ys, y, e⟩
  · exact .inl e
  · exact .inr ⟨ys, y, by rw [e, List.concat_eq_append]⟩
section
variable {P : Program} {w : World} {K : PySem.W.Frag} {mg : Str → Option Value} {base : Heap}
def sp_command_lines : Sp := fun vs H Q _ => ∃ (cs : List Cmd) (a : Addr) (xs : List V), vs = [.ref a] ∧ H a = some (.tup xs) ∧ RpL H (encs cs) xs ∧ fits cs ∧ cnts cs ≤ 900 ∧ ∀ l H', Same H H' → H l = none → H' l = some (.lst (((csLns 1 cs).map lnS).map V.str)) → Q (.ref l) H'
abbrev nn_command_lines : List Str := ["commands", "lines", "waiting", "command", "level", "part", "more", "inner"]
theorem sc_command_lines : FnScope nn_command_lines ["commands"] d_command_lines.scope := ⟨rfl, rfl, rfl, by decide +kernel, rfl, by decide +kernel, by decide +kernel⟩
theorem ok_command_lines (T : Top w K mg) : OK P w K mg base 4 "command_lines" ["commands"] sp_command_lines := by
  refine Has.ok (d := d_command_lines) (T.has 49 47 rfl rfl rfl rfl rfl) sc_command_lines (fun _ _ _ _ _ _ us hl => match us, hl with | [_], _ => rfl) (by rintro _ _ _ _ ⟨_, _, _, rfl, _⟩; rfl) (fun f cdv A outer s H vs Q E hRm h => ?_)
  obtain ⟨cs, a, xs, rfl, ha, hr, hf, hc, q⟩ := h
  refine ⟨_, (pss_cons (ps_set (i := 1) sc_command_lines.nd rfl (.inl rfl) (pe_lst pa_nil))
    (pss_cons (ps_setLc (i := 2) (own := [("command", 3)]) rfl sc_command_lines.nd rfl rfl (sw_true rfl rfl rfl (by decide +kernel)) (RT.pi_revA (by rfl) (T.free 95) (pv 0)) (blkOk_by (N := nn_command_lines) (sc := d_command_lines.scope) (by decide +kernel)) (fun _ _ _ _ _ => (pg_name (i := 3) sc_command_lines.nd rfl (.inl rfl))) (fun _ _ _ _ _ => pts_nil) (fun _ _ _ _ _ => (pe_tup (pa_cons pe_int (pa_cons (pv 3) pa_nil)))))
    (pss_cons (ps_while PassesOwn.never (pt_cmpR (op_neNilL hRm.units0) (pv 2) (pe_lst pa_nil) (nomark _)) (pss_cons (ps_asg (pe_bm0 PySem.F.plainAttrs_list PySem.F.slot_list_pop PySem.F.type_list_pop mt_pop (pv 2)) (pg_tup rfl (pgs_cons (pg_name (i := 4) sc_command_lines.nd rfl (.inr rfl) (.inl rfl)) (pgs_cons (pg_name (i := 5) sc_command_lines.nd rfl (.inl rfl) (.inr rfl)) pgs_nil))))
    (pss_one (ps_if (pt_val (pe_callB call_isi (by rfl) (T.free 91) (by decide +kernel) (pa_cons (pv 5) (pa_cons (pe_bltn (v := .ty "str") rfl (T.free 101) (by decide +kernel) rfl) pa_nil)))) (pss_one (ps_expr (pe_bm PySem.F.plainAttrs_list PySem.F.slot_list_append PySem.F.type_list_append mt_append (pv 1) (pa_cons (pe_op op_add_str (pe_op op_mul_str pe_str (pv 4)) (pv 5)) pa_nil)))) (pss_one (ps_expr (pe_bm PySem.F.plainAttrs_list PySem.F.slot_list_extend PySem.F.type_list_extend mt_extend (pv 2) (pa_cons (pe_lc (own := [("more", 6), ("inner", 7)]) (g := gTup K 2 (gCons (gName 6) (gCons (gName 7) gNil))) rfl sc_command_lines.nd (RT.pi_revA (by rfl) (T.free 95) (pe_c (ok_unfolded T) (hRm.mono (by decide)) (by rfl) (pa_cons (pv 5) pa_nil))) (blkOk_by (N := nn_command_lines) (sc := d_command_lines.scope) (by decide +kernel)) (fun _ _ _ _ _ => (pg_tup rfl (pgs_cons (pg_name (i := 6) sc_command_lines.nd rfl (.inl rfl) (.inr rfl)) (pgs_cons (pg_name (i := 7) sc_command_lines.nd rfl (.inl rfl) (.inr rfl)) pgs_nil)))) (fun _ _ _ _ _ => pts_nil) (fun _ _ _ _ _ => (pe_tup (pa_cons (pe_op op_add (pv 4) (pv 6)) (pa_cons (pv 7) pa_nil))))) pa_nil))))))))
    (pss_one (ps_ret (pv 1)))))), ?_⟩
  have e1 := RpL.len hr
  rw [encs_map, List.length_map] at e1
  have hcl := cnts_len cs
  refine ⟨by show 0 ≤ sizeLine; decide, fun L hL => ?_⟩
  have s0 : Same H (upd H L (.lst [])) := same_upd hL
  have hL0 : (upd H L (.lst [])) L = some (.lst (([] : List (Nat × Ln)).map lnS |>.map V.str)) := upd_same
  generalize upd H L (.lst []) = H0 at s0 hL0 ⊢
  have ha0 := s0 _ _ ha
  rw [encs_map] at hr
  have hr2 := RpL.all2 Cmd.enc (hr.same s0)
  refine ⟨_, rfl, a, xs, rfl, .inr ⟨.of ha0, fun W hW => ?_⟩⟩
  refine lc_map walk_revT hW (by omega) (fun H' s1 => .of (s1 _ _ ha0)) (fun i y H => ∃ c, cs.reverse[i]? = some c ∧ RpW H (1, .inr c) y) (fun i y H H' ⟨c, h1, h2⟩ k => ⟨c, h1, h2.tk k⟩) (fun i x H1 H2 hi s1 hy C k => ?_) fun ys H1 hn s1 hD' hrr => ?_
  · obtain ⟨rfl, hx⟩ := hy
    obtain ⟨c, h1, h2⟩ := hr2.at_ hx
    refine ⟨rfl, _, rfl, by show 2 ≤ sizeLine; decide, fun t ht => k _ _ (same_upd ht) ⟨c, ?_, t, x, rfl, upd_same, (h2.same s1).same (same_upd ht)⟩⟩
    rw [List.getElem?_reverse (by omega), ← e1]
    exact h1
  have hall : All2 (RpW H1) (cs.reverse.map fun c => ((1, .inr c) : Wt)) ys := All2.of (by simp [hn, e1]) fun i d x h1 h2 => by
    obtain ⟨c, h3, h4⟩ := hrr i x h2
    rw [List.getElem?_map, h3] at h1
    cases h1
    exact h4
  have hWn : W ≠ L := Ne.symm (ne_of_none hL0 hW)
  have hWH : H W = none := Same.new s0 hW
  refine ⟨fun m σ H' => Same H H' ∧ ∃ (dn : List (Nat × Ln)) (ws : List Wt) (ys : List V) (o3 o4 o5 o6 o7 : Option V), σ = [some (.ref a), some (.ref L), some (.ref W), o3, o4, o5, o6, o7] ∧ H' L = some (.lst ((dn.map lnS).map V.str)) ∧ H' W = some (.lst ys) ∧ All2 (RpW H') ws ys ∧ (∀ x ∈ ws, wFit x) ∧
    dn ++ ws.reverse.flatMap wOut = csLns 1 cs ∧ wSum ws = m ∧ m ≤ 3600, ⟨_, s0.trans s1, [], cs.reverse.map fun c => ((1, .inr c) : Wt), ys, none, none, none, none, none, rfl, s1 _ _ hL0, hD', hall, ?_, ?_, rfl, ?_⟩, fun m σ H2 hp => ?_⟩
  · intro x hx
    obtain ⟨c, hc, rfl⟩ := List.mem_map.mp hx
    exact fits_all.mp hf c (List.mem_reverse.mp hc)
  · rw [← List.map_reverse, List.reverse_reverse, List.nil_append, csLns_flat]
    rw [List.flatMap_map]
    rfl
  · rw [List.map_reverse, wSum_rev, wSum_sub]
    omega
  obtain ⟨s2, dn, ws, ys, o3, o4, o5, o6, o7, rfl, hL2, hW2, hall2, hfit, htot, hm, hm2⟩ := hp
  refine ⟨_, rfl, by show 0 ≤ sizeLine; decide, fun t ht => ?_⟩
  have st : Same H2 (upd H2 t (.lst [])) := same_upd ht
  refine ⟨W, t, ys, rfl, rfl, .of (st _ _ hW2), .of upd_same, _, rfl, ?_⟩
  generalize upd H2 t (.lst []) = H3 at st ⊢
  have s3 : Same H H3 := s2.trans st
  have hL3 := st _ _ hL2
  have hW3 := st _ _ hW2
  have hall3 := hall2.tkW (same_tk st)
  rcases nil_or_snoc ws with e | ⟨ws', x, e⟩
  · subst e
    have ey : ys = [] := hall3
    subst ey
    refine iteF ⟨_, rfl, q L H3 s3 hL ?_⟩
    have : dn = csLns 1 cs := by rw [← htot]; simp
    rw [← this]
    exact hL3
  · subst e
    obtain ⟨ys', y, rfl, hal, hx⟩ := hall3.snoc
    rw [isEmpty_app]
    have tk : TK H3 (upd H3 W (.lst ys')) := tk_upd fun zs z => by rw [hW3] at z; cases z
    refine iteT ⟨_, fun _ _ h => h, ?_⟩
    refine ⟨_, rfl, .inl ⟨rfl, _, .of hW3⟩, W, ys' ++ [y], y, rfl, rfl, hW3, by simp, ?_⟩
    rw [List.dropLast_concat]
    have hL4 : (upd H3 W (.lst ys')) L = some (.lst ((dn.map lnS).map V.str)) := by rw [upd_ne (Ne.symm hWn)]; exact hL3
    have hW4 : (upd H3 W (.lst ys')) W = some (.lst ys') := upd_same
    have s4 : Same H (upd H3 W (.lst ys')) := Same.up s3 hWH
    have hx4 := hx.tk tk
    have hal4 := hal.tkW tk
    have hfx : wFit x := hfit x (List.mem_append_right _ (List.mem_singleton.mpr rfl))
    have hfw : ∀ z ∈ ws', wFit z := fun z hz => hfit z (List.mem_append_left _ hz)
    have htot2 : dn ++ (wOut x ++ ws'.reverse.flatMap wOut) = csLns 1 cs := by
      rw [← htot, List.reverse_append]
      rfl
    have hm3 : wSum ws' + wSum [x] = m := by rw [← hm, wSum_app]
    have hdl : dn.length ≤ 3600 := by
      have h1 := csLns_cnt 1 cs
      rw [← htot] at h1
      rw [List.length_append] at h1
      omega
    have hwl := wSum_len ws'
    have big : 10000 ≤ sizeLine := by decide
    generalize upd H3 W (.lst ys') = H4 at hL4 hW4 s4 hx4 hal4 ⊢
    obtain ⟨k, it⟩ := x
    obtain ⟨b, u, rfl, hb, hu⟩ := hx4
    refine ⟨b, _, rfl, .of hb, rfl, _, _, rfl, _, _, rfl, rfl, ?_⟩
    cases it with
    | inl l =>
      have hu : u = .str l.text := hu
      subst hu
      refine ⟨_, rfl, _, _, .type "str", .type "str", true, rfl, .ty _, .base (.str l.text), kit_ty (by decide +kernel), true, rfl, iteT ?_⟩
      have hmem : (k, l) ∈ csLns 1 cs := by
        rw [← htot2]
        exact List.mem_append_right _ (List.mem_append_left _ (List.mem_singleton.mpr rfl))
      have hk := (csLns_fit 1 cs hf _ hmem).2
      have hk : k ≤ 1 + cnts cs := hk
      have hln := lnS_len (x := (k, l)) hfx (by show k ≤ 1000; omega)
      unfold lnS at hln
      have hln2 : (repS "  " k).length + l.text.length ≤ 2400 := by rw [s_len] at hln; exact hln
      refine ⟨_, rfl, .inl ⟨rfl, _, .of hL4⟩, _, rfl, _, k, rfl, rfl, by omega, by decide +kernel, _, rfl, _, _, rfl, rfl, by omega, L, (dn.map lnS).map V.str, _, rfl, rfl, hL4, by simp; omega, ?_⟩
      refine ⟨wSum ws', by rw [← hm3]; exact Nat.lt_succ_self _, Same.up s4 hL, dn ++ [(k, l)], ws', ys', _, _, _, _, _, rfl, ?_, ?_, ?_, hfw, ?_, rfl, by omega⟩
      · rw [List.map_append, List.map_append]
        exact upd_same
      · rw [upd_ne hWn]
        exact hW4
      · exact hal4.tkW (tk_upd fun zs z => by rw [hL4] at z; cases z)
      · rw [List.append_assoc]
        exact htot2
    | inr c =>
      have hu : Rp H4 c.enc u := hu
      have hm4 : wSum ws' + (4 * c.cnt + 0) = m := hm3
      have hub : ∃ (b2 : Addr) (us : List V), u = .ref b2 ∧ H4 b2 = some (.tup us) := by
        cases c <;> (obtain ⟨b2, us, e, hb2, _⟩ := hu; exact ⟨b2, us, e, hb2⟩)
      obtain ⟨b2, us, rfl, hb2⟩ := hub
      refine ⟨_, rfl, _, _, .type "tuple", .type "str", false, rfl, .ty _, .base (.tup hb2), kit_ty (by decide +kernel), false, rfl, iteF ?_⟩
      refine ⟨_, rfl, .inl ⟨rfl, _, .of hW4⟩, ?_⟩
      refine ⟨_, rfl, c, _, rfl, hu, hfx, by omega, fun l zs H5 s5 hl hl5 hzs => ⟨l, zs, rfl, .inl ⟨.of hl5, fun D hD => ?_⟩⟩⟩
      have e2 := hzs.len
      have e3 := unf_cnt c
      have e4 := wSum_len (unf c)
      refine lc_map walk_rev hD (by omega) (fun H' s1 => .of (s1 _ _ hl5)) (fun i y H => ∃ x, (unf c).reverse[i]? = some x ∧ RpW H (sh k x) y) (fun i y H H' ⟨c, h1, h2⟩ k => ⟨c, h1, h2.tk k⟩) (fun i x H6 H7 hi s6 hy C kk => ?_) fun ys6 H6 hn6 s6 hD6 hrr6 => ?_
      · obtain ⟨rfl, hx⟩ := hy
        obtain ⟨⟨n, it⟩, h1, h2⟩ := hzs.at_ hx
        obtain ⟨b3, u3, rfl, hb3, hu3⟩ := h2
        refine ⟨b3, _, rfl, .of (s6 _ _ hb3), rfl, _, _, rfl, _, _, rfl, rfl, rfl, _, rfl, _, rfl, _, _, rfl, rfl, _, rfl, by show 2 ≤ sizeLine; decide, fun t3 ht3 => ?_⟩
        refine kk _ _ (same_upd ht3) ⟨(n, it), ?_, t3, u3, rfl, upd_same, ?_⟩
        · rw [List.getElem?_reverse (by omega), ← e2]
          exact h1
        · cases it with
          | inl l => exact hu3
          | inr c3 => exact (Rp.same s6 hu3).same (same_upd ht3)
      · have hall6 : All2 (RpW H6) ((unf c).reverse.map (sh k)) ys6 := All2.of (by simp [hn6, e2]) fun i d x h1 h2 => by
          obtain ⟨c, h3, h4⟩ := hrr6 i x h2
          rw [List.getElem?_map, h3] at h1
          cases h1
          exact h4
        have hW6 := s6 _ _ (s5 _ _ hW4)
        have hL6 := s6 _ _ (s5 _ _ hL4)
        have e6 := hall6.len
        rw [List.length_map, List.length_reverse] at e6
        have e7 := hal.len
        refine ⟨W, D, ys', ys6, rfl, rfl, hW6, hD6, by omega, ?_⟩
        have tk6 : TK H6 (upd H6 W (.lst (ys' ++ ys6))) := tk_upd fun zs z => by rw [hW6] at z; cases z
        refine ⟨wSum (ws' ++ (unf c).reverse.map (sh k)), ?_, Same.up ((s4.trans s5).trans s6) hWH, dn, ws' ++ (unf c).reverse.map (sh k), ys' ++ ys6, _, _, _, _, _, rfl, ?_, upd_same, ?_, ?_, ?_, rfl, ?_⟩
        · rw [wSum_app, wSum_sh, wSum_rev]
          omega
        · rw [upd_ne (Ne.symm hWn)]
          exact hL6
        · exact All2.app (((hal4.tkW (same_tk s5)).tkW (same_tk s6)).tkW tk6) (hall6.tkW tk6)
        · intro z hz
          rcases List.mem_append.mp hz with hz | hz
          · exact hfw z hz
          · obtain ⟨z', hz', rfl⟩ := List.mem_map.mp hz
            exact (unf_fit hfx z' (List.mem_reverse.mp hz')).1
        · rw [List.reverse_append, List.flatMap_append, List.map_reverse, List.reverse_reverse, unf_out]
          exact htot2
        · rw [wSum_app, wSum_sh, wSum_rev]
          omega
end
end NP
/-! NPWrite5 -/
namespace NP
open PySem PySem.Spec PyProof.Rows L2 TL
/-- small enough to be written and read -/
structure Scr.sm (s : Scr) : Prop where
  f : s.fit
  c : pcnt s.procs ≤ 900
theorem pcnt_mem : ∀ {rs : List (Str × List Cmd)} {r : Str × List Cmd}, r ∈ rs → cnts r.2 ≤ pcnt rs
  | (n, cs) :: rs, r, h => by
    show cnts r.2 ≤ cnts cs + pcnt rs
    rcases List.mem_cons.mp h with e | h
    · rw [e]; exact Nat.le_add_right _ _
    · have := pcnt_mem h
      omega
theorem procLns_cnt (r : Str × List Cmd) : (procLns r).length ≤ 2 + 4 * cnts r.2 := by
  have := csLns_cnt 1 r.2
  show (_ :: (csLns 1 r.2 ++ [_])).length ≤ _
  simp only [List.length_cons, List.length_append, List.length_nil]
  omega
theorem procs_cnt : ∀ rs : List (Str × List Cmd), (rs.flatMap procLns).length ≤ 2 * rs.length + 4 * pcnt rs
  | [] => Nat.zero_le _
  | (n, cs) :: rs => by
    have h1 := procLns_cnt (n, cs)
    have h2 := procs_cnt rs
    have h1 : (procLns (n, cs)).length ≤ 2 + 4 * cnts cs := h1
    show (procLns (n, cs) ++ rs.flatMap procLns).length ≤ 2 * (rs.length + 1) + 4 * (cnts cs + pcnt rs)
    rw [List.length_append]
    omega
theorem scr_cnt {s : Scr} (h : s.sm) : (scrLns s).length ≤ 4000 := by
  have h1 := procs_cnt s.procs
  have h2 := h.c
  have h3 := h.f.tl
  have h4 := h.f.il
  have h5 := h.f.pl
  unfold scrLns
  rw [List.length_append, List.length_append, List.length_map, List.length_map]
  omega
theorem scr_fit {s : Scr} (h : s.sm) : ∀ x ∈ scrLns s, x.2.fit ∧ x.1 ≤ 1000 := fun x hx => by
  rcases List.mem_append.mp hx with hx | hx
  · obtain ⟨y, hy, rfl⟩ := List.mem_map.mp hx
    exact ⟨h.f.t y hy, Nat.zero_le _⟩
  · rcases List.mem_append.mp hx with hx | hx
    · obtain ⟨y, hy, rfl⟩ := List.mem_map.mp hx
      exact ⟨h.f.i y hy, Nat.zero_le _⟩
    · obtain ⟨r, hr, hx⟩ := List.mem_flatMap.mp hx
      have hf := h.f.p r hr
      have hc := pcnt_mem hr
      have := h.c
      rcases List.mem_cons.mp hx with e | hx
      · rw [e]; exact ⟨hf.1, Nat.zero_le _⟩
      · rcases List.mem_append.mp hx with hx | hx
        · have h2 := csLns_fit 1 r.2 hf.2.1 x hx
          exact ⟨h2.1, by omega⟩
        · rw [List.mem_singleton.mp hx]; exact ⟨trivial, Nat.zero_le _⟩
theorem lnS_zero (l : Ln) : lnS (0, l) = l.text := by
  show repS "  " 0 ++ l.text = _
  have e : repS "  " 0 = Str.empty := sx (by rw [tl_repS]; rfl)
  rw [e, s_nil]
def headLns (s : Scr) : List (Nat × Ln) := s.tapes.map (fun h => (0, .tape h.1 h.2)) ++ s.idx.map (fun h => (0, .idx h.1 h.2))
theorem scr_head (s : Scr) : scrLns s = headLns s ++ s.procs.flatMap procLns := by
  unfold scrLns headLns
  rw [List.append_assoc]
theorem put1 {H0 H : Hp} {D : Addr} {X : List (Nat × Ln)} {z : Str} {x : Nat × Ln} (s : Same H0 H) (hD : H0 D = none) (hL : H D = some (.lst ((X.map lnS).map V.str))) (e : z = lnS x) :
    ∃ H2, upd H D (.lst ((X.map lnS).map V.str ++ [V.str z])) = H2 ∧ Same H0 H2 ∧ H2 D = some (.lst (((X ++ [x]).map lnS).map V.str)) ∧ TK H H2 :=
  ⟨_, rfl, Same.up s hD, by rw [List.map_append, List.map_append, e]; exact upd_same, tk_upd fun zs q => by rw [hL] at q; cases q⟩
theorem putN {H0 H : Hp} {D : Addr} {X Y : List (Nat × Ln)} (s : Same H0 H) (hD : H0 D = none) (hL : H D = some (.lst ((X.map lnS).map V.str))) :
    ∃ H2, upd H D (.lst ((X.map lnS).map V.str ++ (Y.map lnS).map V.str)) = H2 ∧ Same H0 H2 ∧ H2 D = some (.lst (((X ++ Y).map lnS).map V.str)) ∧ TK H H2 :=
  ⟨_, rfl, Same.up s hD, by rw [List.map_append, List.map_append]; exact upd_same, tk_upd fun zs q => by rw [hL] at q; cases q⟩
section
variable {P : Program} {w : World} {K : PySem.W.Frag} {mg : Str → Option Value} {base : Heap}
def sp_script_lines : Sp := fun vs H Q _ => ∃ (s : Scr) (v : V), vs = [v] ∧ Rp H s.enc v ∧ s.sm ∧ ∀ l H', Same H H' → H l = none → H' l = some (.lst (((scrLns s).map lnS).map V.str)) → Q (.ref l) H'
abbrev nn_script_lines : List Str := ["script", "tapes", "indexes", "procedures", "lines", "name", "poly", "commands"]
theorem sc_script_lines : FnScope nn_script_lines ["script"] d_script_lines.scope := ⟨rfl, rfl, rfl, by decide +kernel, rfl, by decide +kernel, by decide +kernel⟩
theorem ok_script_lines (T : Top w K mg) : OK P w K mg base 5 "script_lines" ["script"] sp_script_lines := by
  refine Has.ok (d := d_script_lines) (T.has 50 48 rfl rfl rfl rfl rfl) sc_script_lines (fun _ _ _ _ _ _ us hl => match us, hl with | [_], _ => rfl) (by rintro _ _ _ _ ⟨_, _, rfl, _⟩; rfl) (fun f cdv A outer s H vs Q E hRm h => ?_)
  obtain ⟨t, v, rfl, hv, hf, q⟩ := h
  obtain ⟨a, b, c, d, xs, ys, zs, rfl, ha, hb, hrb, hc, hrc, hd, hrd⟩ := Rp.scr hv
  refine ⟨_, (pss_cons (ps_asg (pv 0) (pg_tup rfl (pgs_cons (pg_name (i := 1) sc_script_lines.nd rfl (.inl rfl) (.inr rfl)) (pgs_cons (pg_name (i := 2) sc_script_lines.nd rfl (.inl rfl) (.inr rfl)) (pgs_cons (pg_name (i := 3) sc_script_lines.nd rfl (.inl rfl) (.inr rfl)) pgs_nil)))))
    (pss_cons (ps_setLc (i := 4) (own := [("name", 5), ("poly", 6)]) (g := gTup K 2 (gCons (gName 5) (gCons (gName 6) gNil))) rfl sc_script_lines.nd rfl rfl (sw_true rfl rfl rfl (by decide +kernel)) (pi_tup (pv 1)) (blkOk_by (N := nn_script_lines) (sc := d_script_lines.scope) (by decide +kernel)) (fun _ _ _ _ _ => (pg_tup rfl (pgs_cons (pg_name (i := 5) sc_script_lines.nd rfl (.inl rfl) (.inr rfl)) (pgs_cons (pg_name (i := 6) sc_script_lines.nd rfl (.inl rfl) (.inr rfl)) pgs_nil)))) (fun _ _ _ _ _ => pts_nil) (fun _ _ _ _ _ => (pe_joinedB (.cons pe_str (.cons (pe_fmtS (pv 5)) (.cons pe_str (.cons (pe_fmtS (pe_c (ok_text_of_poly T) (hRm.mono (by decide)) (by rfl) (pa_cons (pv 6) pa_nil))) .nil)))))))
    (pss_cons (ps_expr (pe_bm PySem.F.plainAttrs_list PySem.F.slot_list_extend PySem.F.type_list_extend mt_extend (pv 4) (pa_cons (pe_lc (own := [("name", 5), ("poly", 6)]) (g := gTup K 2 (gCons (gName 5) (gCons (gName 6) gNil))) rfl sc_script_lines.nd (pi_tup (pv 2)) (blkOk_by (N := nn_script_lines) (sc := d_script_lines.scope) (by decide +kernel)) (fun _ _ _ _ _ => (pg_tup rfl (pgs_cons (pg_name (i := 5) sc_script_lines.nd rfl (.inl rfl) (.inr rfl)) (pgs_cons (pg_name (i := 6) sc_script_lines.nd rfl (.inl rfl) (.inr rfl)) pgs_nil)))) (fun _ _ _ _ _ => pts_nil) (fun _ _ _ _ _ => (pe_joinedB (.cons pe_str (.cons (pe_fmtS (pv 5)) (.cons pe_str (.cons (pe_fmtS (pe_c (ok_text_of_poly T) (hRm.mono (by decide)) (by rfl) (pa_cons (pv 6) pa_nil))) .nil))))))) pa_nil)))
    (pss_cons (ps_for PassesOwn.never rfl (pi_tup (pv 3)) (pg_tup rfl (pgs_cons (pg_name (i := 5) sc_script_lines.nd rfl (.inl rfl) (.inr rfl)) (pgs_cons (pg_name (i := 7) sc_script_lines.nd rfl (.inl rfl) (.inr rfl)) pgs_nil))) (pss_cons (ps_expr (pe_bm PySem.F.plainAttrs_list PySem.F.slot_list_append PySem.F.type_list_append mt_append (pv 4) (pa_cons (pe_joinedB (.cons pe_str (.cons (pe_fmtS (pv 5)) .nil))) pa_nil)))
    (pss_cons (ps_expr (pe_bm PySem.F.plainAttrs_list PySem.F.slot_list_extend PySem.F.type_list_extend mt_extend (pv 4) (pa_cons (pe_c (ok_command_lines T) (hRm.mono (by decide)) (by rfl) (pa_cons (pv 7) pa_nil)) pa_nil)))
    (pss_one (ps_expr (pe_bm PySem.F.plainAttrs_list PySem.F.slot_list_append PySem.F.type_list_append mt_append (pv 4) (pa_cons pe_str pa_nil)))))))
    (pss_one (ps_ret (pv 4))))))), ?_⟩
  refine ⟨_, rfl, a, _, rfl, .of ha, rfl, _, _, rfl, _, _, rfl, _, _, rfl, rfl, ?_⟩
  have e1 := RpL.len hrb
  have e2 := RpL.len hrc
  have e3 := RpL.len hrd
  rw [List.length_map] at e1 e2 e3
  have f1 := hf.f.tl
  have f2 := hf.f.il
  have f3 := hf.f.pl
  have big : 10000 ≤ sizeLine := by decide
  have l1 : ("tape " : Str).length ≤ 1000000 := by decide +kernel
  have l2 : (" size " : Str).length ≤ 1000000 := by decide +kernel
  have l3 : ("index " : Str).length ≤ 1000000 := by decide +kernel
  have l4 : (" to " : Str).length ≤ 1000000 := by decide +kernel
  have l5 : ("procedure " : Str).length ≤ 1000000 := by decide +kernel
  refine ⟨_, rfl, b, rfl, ⟨_, .of hb⟩, fun D hD => ?_⟩
  refine lc_map walk_tup hD (by omega) (fun H' s1 => .of (s1 _ _ hb)) (fun i y _ => ∃ h, t.tapes[i]? = some h ∧ y = .str (lnS (0, .tape h.1 h.2))) (fun _ _ _ _ h _ => h) (fun i x H1 H2 hi s1 hy C k => ?_) fun ys1 H1 hn s1 hD1 hr1 => ?_
  · obtain ⟨rfl, hx⟩ := hy
    obtain ⟨dd, h1, h2⟩ := RpL.at_ hrb hx
    rw [List.getElem?_map] at h1
    obtain ⟨h, h3, rfl⟩ := Option.map_eq_some_iff.mp h1
    have hm := hf.f.t h (List.mem_of_getElem? h3)
    obtain ⟨p, u, rfl, hp, hu⟩ := Rp.head2 h2
    have m1 := mil (nm_len hm.1)
    have m2 : (textPoly h.2).length ≤ 1000000 := Nat.le_trans (tpoly_len hm.2) (by decide)
    refine ⟨p, _, rfl, .of (s1 _ _ hp), rfl, _, _, rfl, _, _, rfl, rfl, rfl, _, rfl, l1, _, rfl, _, rfl, m1, _, rfl, m1, _, rfl, l2, _, rfl, h.2, u, rfl, hu.same s1, hm.2, fun H5 s5 => ⟨_, rfl, m2, _, rfl, m2, k _ _ s5 ⟨h, h3, ?_⟩⟩⟩
    rw [lnS_zero, tape_text]
    rfl
  have g1 : ys1 = ((t.tapes.map fun h => ((0, .tape h.1 h.2) : Nat × Ln)).map lnS).map V.str := by
    refine List.ext_getElem? fun i => ?_
    by_cases hi : i < ys1.length
    · obtain ⟨h, hq, e⟩ := hr1 i ys1[i] (List.getElem?_eq_getElem hi)
      rw [List.getElem?_eq_getElem hi, List.getElem?_map, List.getElem?_map, List.getElem?_map, hq, e]
      rfl
    · rw [List.getElem?_eq_none (by omega), List.getElem?_eq_none (by simp; omega)]
  have hc1 := s1 _ _ hc
  have hrc1 := hrc.same s1
  refine ⟨_, rfl, .inl ⟨rfl, _, .of hD1⟩, _, rfl, c, rfl, ⟨_, .of hc1⟩, fun D2 hD2 => ?_⟩
  refine lc_map walk_tup hD2 (by omega) (fun H' s1 => .of (s1 _ _ hc1)) (fun i y _ => ∃ h, t.idx[i]? = some h ∧ y = .str (lnS (0, .idx h.1 h.2))) (fun _ _ _ _ h _ => h) (fun i x H3 H4 hi s3 hy C k => ?_) fun ys2 H2 hn2 s2 hD3 hr2 => ?_
  · obtain ⟨rfl, hx⟩ := hy
    obtain ⟨dd, h1, h2⟩ := RpL.at_ hrc1 hx
    rw [List.getElem?_map] at h1
    obtain ⟨h, h3, rfl⟩ := Option.map_eq_some_iff.mp h1
    have hm := hf.f.i h (List.mem_of_getElem? h3)
    obtain ⟨p, u, rfl, hp, hu⟩ := Rp.head2 h2
    have m1 := mil (nm_len hm.1)
    have m2 : (textPoly h.2).length ≤ 1000000 := Nat.le_trans (tpoly_len hm.2) (by decide)
    refine ⟨p, _, rfl, .of (s3 _ _ hp), rfl, _, _, rfl, _, _, rfl, rfl, rfl, _, rfl, l3, _, rfl, _, rfl, m1, _, rfl, m1, _, rfl, l4, _, rfl, h.2, u, rfl, hu.same s3, hm.2, fun H5 s5 => ⟨_, rfl, m2, _, rfl, m2, k _ _ s5 ⟨h, h3, ?_⟩⟩⟩
    rw [lnS_zero, idx_text]
    rfl
  have g2 : ys2 = ((t.idx.map fun h => ((0, .idx h.1 h.2) : Nat × Ln)).map lnS).map V.str := by
    refine List.ext_getElem? fun i => ?_
    by_cases hi : i < ys2.length
    · obtain ⟨h, hq, e⟩ := hr2 i ys2[i] (List.getElem?_eq_getElem hi)
      rw [List.getElem?_eq_getElem hi, List.getElem?_map, List.getElem?_map, List.getElem?_map, hq, e]
      rfl
    · rw [List.getElem?_eq_none (by omega), List.getElem?_eq_none (by simp; omega)]
  have hD2' := s2 _ _ hD1
  refine ⟨D, D2, ys1, ys2, rfl, rfl, hD2', hD3, by omega, ?_⟩
  have s3 : Same H (upd H2 D (.lst (ys1 ++ ys2))) := Same.up (s1.trans s2) hD
  have hD4 : (upd H2 D (.lst (ys1 ++ ys2))) D = some (.lst (((headLns t).map lnS).map V.str)) := by
    unfold headLns
    rw [g1, g2, ← List.map_append, ← List.map_append]
    exact upd_same
  generalize upd H2 D (.lst (ys1 ++ ys2)) = H3 at s3 hD4 ⊢
  refine ⟨_, rfl, d, rfl, ⟨_, .of (s3 _ _ hd)⟩, ?_⟩
  refine for_it walk_tup (fun i σ H' => Same H H' ∧ ∃ (o5 o6 o7 : Option V), σ = [some (.ref a), some (.ref b), some (.ref c), some (.ref d), some (.ref D), o5, o6, o7] ∧ H' D = some (.lst (((headLns t ++ (t.procs.take i).flatMap procLns).map lnS).map V.str))) ?_ (fun i σ H' _ hp => .of (hp.1 _ _ hd)) (fun i x σ H4 H5 hi hp hy => ?_) (fun σ H4 hp => ?_)
  · exact ⟨s3, none, none, none, rfl, by rw [List.take_zero, List.flatMap_nil, List.append_nil]; exact hD4⟩
  · obtain ⟨s4, o5, o6, o7, rfl, hL⟩ := hp
    obtain ⟨rfl, hx⟩ := hy
    obtain ⟨dd, h1, h2⟩ := RpL.at_ hrd hx
    rw [List.getElem?_map] at h1
    obtain ⟨r, h3, rfl⟩ := Option.map_eq_some_iff.mp h1
    have hrm := List.mem_of_getElem? h3
    have hm := hf.f.p r hrm
    obtain ⟨p, b2, us, rfl, hp2, hb2, hu⟩ := Rp.proc h2
    have m1 := mil (nm_len hm.1)
    have hcn := pcnt_mem hrm
    have hcc := hf.c
    have hlen : ∀ j, ((t.procs.take j).flatMap procLns).length ≤ 3800 := fun j => by
      have h1 := procs_cnt (t.procs.take j)
      have h2 : pcnt (t.procs.take j) ≤ pcnt t.procs := by
        have : ∀ (l : List (Str × List Cmd)) (j : Nat), pcnt (l.take j) ≤ pcnt l := by
          intro l
          induction l with
          | nil => intro j; simp [pcnt]
          | cons a l ih =>
            intro j
            cases j with
            | zero => exact Nat.zero_le _
            | succ j =>
              have := ih j
              show cnts a.2 + pcnt (l.take j) ≤ cnts a.2 + pcnt l
              omega
        exact this _ _
      have h3 : (t.procs.take j).length ≤ 100 := by rw [List.length_take]; omega
      omega
    have hli := hlen i
    have hhd : (headLns t).length ≤ 200 := by
      unfold headLns
      rw [List.length_append, List.length_map, List.length_map]
      omega
    have hpl := procLns_cnt r
    refine ⟨p, _, rfl, .of (s4 _ _ hp2), rfl, _, _, rfl, _, _, rfl, rfl, ?_⟩
    refine ⟨_, rfl, .inl ⟨rfl, _, .of hL⟩, _, rfl, l5, _, rfl, _, rfl, m1, _, rfl, m1, D, _, _, rfl, rfl, hL, by simp only [List.length_map, List.length_append]; omega, ?_⟩
    obtain ⟨H6, e6, s6, hL6, tk6⟩ := put1 (x := (0, .proc r.1)) s4 hD hL (z := catS (([] : List Str) ++ [("procedure " : Str)] ++ [r.1])) (by rw [lnS_zero, proc_text]; rfl)
    rw [e6]
    have hb6 := tk6 _ _ (s4 _ _ hb2)
    have hu6 := (hu.same s4).tk tk6
    refine ⟨_, rfl, .inl ⟨rfl, _, .of hL6⟩, _, rfl, r.2, b2, us, rfl, hb6, hu6, hm.2.1, by omega, fun l H7 s7 hl hl7 => ?_⟩
    have hL7 := s7 _ _ hL6
    refine ⟨D, l, _, _, rfl, rfl, hL7, hl7, by simp only [List.length_map, List.length_append, List.length_cons, List.length_nil]; have := csLns_cnt 1 r.2; omega, ?_⟩
    obtain ⟨H8, e8, s8, hL8, tk8⟩ := putN (Y := csLns 1 r.2) (s6.trans s7) hD hL7
    rw [e8]
    refine ⟨_, rfl, .inl ⟨rfl, _, .of hL8⟩, D, _, _, rfl, rfl, hL8, by simp only [List.length_map, List.length_append, List.length_cons, List.length_nil]; have := csLns_cnt 1 r.2; omega, ?_⟩
    obtain ⟨H9, e9, s9, hL9, tk9⟩ := put1 (x := (0, .fin)) s8 hD hL8 (z := "end") (by rw [lnS_zero, fin_text])
    rw [e9]
    refine ⟨s9, some (.str r.1), o6, some (.ref b2), rfl, ?_⟩
    have e10 : headLns t ++ (t.procs.take (i + 1)).flatMap procLns = headLns t ++ (t.procs.take i).flatMap procLns ++ [(0, .proc r.1)] ++ csLns 1 r.2 ++ [(0, .fin)] := by
      rw [List.take_add_one, h3, List.flatMap_append]
      show _ ++ (_ ++ (procLns r ++ [])) = _
      unfold procLns
      simp
    rw [e10]
    exact hL9
  · obtain ⟨s4, o5, o6, o7, rfl, hL⟩ := hp
    rw [e3, List.take_length, ← scr_head] at hL
    exact ⟨_, rfl, q D _ s4 hD hL⟩
def sp_written : Sp := fun vs H Q _ => ∃ (s : Scr) (v : V), vs = [v] ∧ Rp H s.enc v ∧ s.sm ∧ ∀ H', Same H H' → Q (.str (scrText s)) H'
abbrev nn_written : List Str := ["script"]
theorem sc_written : FnScope nn_written ["script"] d_written.scope := ⟨rfl, rfl, rfl, by decide +kernel, rfl, by decide +kernel, by decide +kernel⟩
theorem ok_written (T : Top w K mg) : OK P w K mg base 12 "written" ["script"] sp_written := by
  refine Has.ok (d := d_written) (T.has 51 49 rfl rfl rfl rfl rfl) sc_written (fun _ _ _ _ _ _ us hl => match us, hl with | [_], _ => rfl) (by rintro _ _ _ _ ⟨_, _, rfl, _⟩; rfl) (fun f cdv A outer s H vs Q E hRm h => ?_)
  obtain ⟨t, v, rfl, hv, hf, q⟩ := h
  refine ⟨_, (pss_cons (ps_expr (pe_c (ok_need_script T) (hRm.mono (by decide)) (by rfl) (pa_cons (pv 0) pa_nil)))
    (pss_one (ps_ret (pe_join pe_str (pe_c (ok_script_lines T) (hRm.mono (by decide)) (by rfl) (pa_cons (pv 0) pa_nil)))))), ?_⟩
  refine ⟨_, rfl, t, v, rfl, hv, hf.f, fun H1 s1 => ?_⟩
  refine ⟨⟨_, rfl⟩, _, rfl, t, v, rfl, hv.same s1, hf, fun l H2 s2 hl hl2 => ?_⟩
  refine ⟨_, l, (scrLns t).map lnS, rfl, rfl, .inl (.of hl2), ?_, ?_⟩
  · have e : ("\n" : Str).length = 1 := by decide +kernel
    rw [e]
    refine join_fits (m := 2400) (n := 4000) (fun y hy => ?_) (by rw [List.length_map]; exact scr_cnt hf) (by decide)
    obtain ⟨x, hx, rfl⟩ := List.mem_map.mp hy
    have := scr_fit hf x hx
    exact lnS_len this.1 this.2
  · rw [join_eq]
    exact q _ (s1.trans s2)
end
end NP
/-! NPPick -/
namespace NP
open PySem PySem.Spec PyProof.Rows L2 TL
section
variable {P : Program} {w : World} {K : PySem.W.Frag} {mg : Str → Option Value} {base : Heap}
def sp_law_pick : Sp := fun vs H Q _ => ∃ (d l a : Addr) (xs : List V), vs = [.ref d, .ref a] ∧ Deck H d l ∧ H a = some (.lst xs) ∧ a ≠ l ∧ xs ≠ [] ∧ xs.length ≤ 2000000000000 ∧ ∀ x H', x ∈ xs → SameX [d, l] H H' → TK H H' → Deck H' d l → Q x H'
abbrev nn_law_pick : List Str := ["_law_deck_here", "_law_some"]
theorem sc_law_pick : FnScope nn_law_pick ["_law_deck_here", "_law_some"] d_law_pick.scope := ⟨rfl, rfl, rfl, by decide +kernel, rfl, by decide +kernel, by decide +kernel⟩
theorem ok_law_pick (T : Top w K mg) : OK P w K mg base 2 "_law_pick" ["_law_deck_here", "_law_some"] sp_law_pick := by
  refine Has.ok (d := d_law_pick) (T.has 65 67 rfl rfl rfl rfl rfl) sc_law_pick (fun _ _ _ _ _ _ us hl => match us, hl with | [_, _], _ => rfl) (by rintro _ _ _ _ ⟨_, _, _, _, rfl, _⟩; rfl) (fun f cdv A outer s H vs Q E hRm h => ?_)
  obtain ⟨d, l, a, xs, rfl, hD, ha, hal, hne, hlen, q⟩ := h
  refine ⟨_, (pss_one (ps_ret (pe_ix ixL (pv 1) (pe_c (ok_law_draw T) (hRm.mono (by decide)) (by rfl) (pa_cons (pv 0) (pa_cons (pe_callB lenA (by rfl) (T.free 92) (by decide +kernel) (pa_cons (pv 1) pa_nil)) pa_nil))) (fun _ _ => rfl)))), ?_⟩
  have had : a ≠ d := fun e => by
    obtain ⟨m, n, hd⟩ := hD.ex
    rw [e, hd] at ha; cases ha
  refine ⟨_, rfl, _, rfl, _, rfl, a, xs, rfl, .inr ha, d, l, xs.length, rfl, hD, List.length_pos_iff.mpr hne, hlen, fun r H' hr sx tk dD => ?_⟩
  have ha' := sx _ _ ha (by simp [had, hal])
  exact ⟨a, xs, r, xs[r], rfl, rfl, ha', List.getElem?_eq_getElem hr, q _ _ (List.getElem_mem hr) sx tk dD⟩
def poolW : List Str := ["t", "a", "b2", "input_", "cells", "i", "j", "k_1", "x", "m", "main", "turn", "p", "q", "no", "abcdefghijkl", "at", "zero", "set", "ones", "size1"]
def sp_law_pool : Sp := fun vs H Q _ => ∃ _u : Unit, vs = [] ∧ ∀ l, H l = none → Q (.ref l) (upd H l (.lst (poolW.map V.str)))
abbrev nn_law_pool : List Str := []
theorem sc_law_pool : FnScope nn_law_pool [] d_law_pool.scope := ⟨rfl, rfl, rfl, by decide +kernel, rfl, by decide +kernel, by decide +kernel⟩
theorem ok_law_pool (T : Top w K mg) : OK P w K mg base 1 "_law_pool" [] sp_law_pool := by
  refine Has.ok (d := d_law_pool) (T.has 72 74 rfl rfl rfl rfl rfl) sc_law_pool (fun _ _ _ _ _ _ us hl => match us, hl with | [], _ => rfl) (by rintro _ _ _ _ ⟨_, rfl, _⟩; rfl) (fun f cdv A outer s H vs Q E hRm h => ?_)
  obtain ⟨_, rfl, q⟩ := h
  refine ⟨_, (pss_one (ps_ret (pe_lst (pa_cons pe_str (pa_cons pe_str (pa_cons pe_str (pa_cons pe_str (pa_cons pe_str (pa_cons pe_str (pa_cons pe_str (pa_cons pe_str (pa_cons pe_str (pa_cons pe_str (pa_cons pe_str (pa_cons pe_str (pa_cons pe_str (pa_cons pe_str (pa_cons pe_str (pa_cons pe_str (pa_cons pe_str (pa_cons pe_str (pa_cons pe_str (pa_cons pe_str (pa_cons pe_str pa_nil)))))))))))))))))))))))), ?_⟩
  exact ⟨by show 21 ≤ sizeLine; decide, fun l hl => q l hl⟩
end
end NP
/-! NPDPoly -/
namespace NP
open PySem PySem.Spec PyProof.Rows L2 TL
/-! ## the dict of a drawn polynomial -/
def pk (l : Poly) : List (Key × V) := l.map fun q => ((Sum.inl (q.1 : Int) : Key), V.int (q.2 : Int))
def PkOk (n : Nat) (l : Poly) : Prop := (l.map (·.1)).Nodup ∧ l.length ≤ n ∧ ∀ q ∈ l, q.1 ≤ 3 ∧ 1 ≤ q.2 ∧ q.2 ≤ 1000000000000
theorem key_inj {a b : Nat} : ((Sum.inl (a : Int) : Key) = Sum.inl (b : Int)) ↔ a = b := ⟨fun h => by injection h with h; exact Int.ofNat.inj h, fun h => by rw [h]⟩
theorem pk_put {n : Nat} {l : Poly} (h : PkOk n l) {e c : Nat} (he : e ≤ 3) (hc : 1 ≤ c) (hc2 : c ≤ 1000000000000) : ∃ l', putK (pk l) (Sum.inl (e : Int)) (.int (c : Int)) = pk l' ∧ PkOk (n + 1) l' := by
  obtain ⟨nd, hl, ok⟩ := h
  by_cases hm : e ∈ l.map (·.1)
  · refine ⟨l.map fun q => if q.1 = e then (q.1, c) else q, ?_, ?_, ?_, ?_⟩
    · unfold putK
      rw [if_pos]
      · unfold pk
        rw [List.map_map, List.map_map]
        refine List.map_congr_left fun q _ => ?_
        by_cases hq : q.1 = e
        · simp [key_inj, hq]
        · simp [key_inj, hq]
          exact fun z => absurd (Int.ofNat.inj z) hq
      · rw [List.any_eq_true]
        obtain ⟨q, hq, e1⟩ := List.mem_map.mp hm
        exact ⟨_, List.mem_map_of_mem hq, decide_eq_true (key_inj.mpr e1)⟩
    · rw [List.map_map, show ((·.1) ∘ fun q : Nat × Nat => if q.1 = e then (q.1, c) else q) = (·.1) from funext fun q => by
        show (if q.1 = e then (q.1, c) else q).1 = q.1
        split <;> rfl]
      exact nd
    · rw [List.length_map]; omega
    · intro q hq
      obtain ⟨r, hr, e1⟩ := List.mem_map.mp hq
      have := ok r hr
      by_cases h1 : r.1 = e
      · rw [if_pos h1] at e1; subst e1; exact ⟨this.1, hc, hc2⟩
      · rw [if_neg h1] at e1; subst e1; exact this
  · refine ⟨l ++ [(e, c)], ?_, ?_, ?_, ?_⟩
    · unfold putK
      rw [if_neg]
      · unfold pk
        rw [List.map_append]; rfl
      · intro h
        rw [List.any_eq_true] at h
        obtain ⟨kv, h1, h2⟩ := h
        obtain ⟨q, hq, e1⟩ := List.mem_map.mp h1
        subst e1
        exact hm (List.mem_map.mpr ⟨q, hq, key_inj.mp (of_decide_eq_true h2)⟩)
    · rw [List.map_append, List.nodup_append]
      refine ⟨nd, by simp, fun x hx y hy => ?_⟩
      rw [List.map_singleton, List.mem_singleton] at hy
      subst hy
      exact fun z => hm (z ▸ hx)
    · rw [List.length_append, List.length_singleton]; omega
    · intro q hq
      rcases List.mem_append.mp hq with z | z
      · exact ok q z
      · rw [List.mem_singleton] at z; subst z; exact ⟨he, hc, hc2⟩
theorem pk_keys (l : Poly) : (pk l).map (·.1) = (l.map fun q => (q.1 : Int)).map Sum.inl := by
  unfold pk
  rw [List.map_map, List.map_map]; rfl
theorem pk_get : ∀ {l : Poly}, (l.map (·.1)).Nodup → ∀ {q : Nat × Nat}, q ∈ l → valV (pk l) (Sum.inl (q.1 : Int)) = some (.int (q.2 : Int))
  | [], _, _, h => by cases h
  | p :: r, nd, q, h => by
    rw [List.map_cons, List.nodup_cons] at nd
    rcases List.mem_cons.mp h with e | e
    · subst e; exact valV_pos rfl
    · have : ¬ ((Sum.inl (p.1 : Int) : Key) = Sum.inl (q.1 : Int)) := fun z => nd.1 (key_inj.mp z ▸ List.mem_map_of_mem e)
      exact (valV_neg (p := ((Sum.inl (p.1 : Int) : Key), V.int (p.2 : Int))) this).trans (pk_get nd.2 e)
/-- what sorted answers: the polynomial's exponents, in order -/
theorem pk_sorted {n : Nat} {l : Poly} (h : PkOk n l) {ys : List Int} (hp : ys.Perm (l.map fun q => (q.1 : Int))) (ho : ys.Pairwise (· ≤ ·)) :
    ∃ p : Poly, PolyOk p ∧ ys = p.map (fun q => (q.1 : Int)) ∧ p.length ≤ n ∧ ∀ q ∈ p, q ∈ l := by
  obtain ⟨nd, hl, ok⟩ := h
  have hf : ∀ y ∈ ys, ∃ q ∈ l, (q.1 : Int) = y := fun y hy => by
    obtain ⟨q, a, b⟩ := List.mem_map.mp (hp.mem_iff.mp hy)
    exact ⟨q, a, b⟩
  have nd2 : ys.Nodup := by
    refine hp.nodup_iff.mpr ?_
    have : (l.map fun q => (q.1 : Int)) = (l.map (·.1)).map (fun n : Nat => (n : Int)) := by rw [List.map_map]; rfl
    rw [this]
    exact List.pairwise_map.mpr (nd.imp fun {a b} h => fun z => h (Int.ofNat.inj z))
  have main : ∀ zs : List Int, (∀ y ∈ zs, ∃ q ∈ l, (q.1 : Int) = y) → ∃ p : Poly, zs = p.map (fun q => (q.1 : Int)) ∧ ∀ q ∈ p, q ∈ l := by
    intro zs
    induction zs with
    | nil => exact fun _ => ⟨[], rfl, fun _ h => by cases h⟩
    | cons z r ih =>
      intro hz
      obtain ⟨q, hq, e⟩ := hz z List.mem_cons_self
      obtain ⟨p, e2, hp2⟩ := ih fun y hy => hz y (List.mem_cons_of_mem _ hy)
      refine ⟨q :: p, by rw [List.map_cons, ← e2, e], fun x hx => ?_⟩
      rcases List.mem_cons.mp hx with a | a
      · rw [a]; exact hq
      · exact hp2 x a
  obtain ⟨p, e, hpl⟩ := main ys hf
  refine ⟨p, ⟨?_, fun q hq => ok q (hpl q hq)⟩, e, ?_, hpl⟩
  · have both : ys.Pairwise (fun a b => a < b) := by
      have := ho.and nd2
      exact this.imp fun {a b} ⟨x, y⟩ => Int.lt_iff_le_and_ne.mpr ⟨x, y⟩
    rw [e, List.pairwise_map] at both
    exact both.imp fun {a b} z => Int.ofNat_lt.mp z
  · have := hp.length_eq
    rw [e, List.length_map, List.length_map] at this
    omega
section
variable {P : Program} {w : World} {K : PySem.W.Frag} {mg : Str → Option Value} {base : Heap}
theorem rpl2 {H : Hp} (q : Nat × Nat) : RpL H [.int (q.1 : Int), .int (q.2 : Int)] [.int (q.1 : Int), .int (q.2 : Int)] := RpL.of rfl fun i d x h1 h2 => by
  match i, h1, h2 with
  | 0, h1, h2 => cases h1; cases h2; rfl
  | 1, h1, h2 => cases h1; cases h2; rfl
def sp_law_drawn_poly : Sp := fun vs H Q _ => ∃ (d l : Addr) (m t : Nat), vs = [.ref d, .int m, .int t] ∧ Deck H d l ∧ m ≤ 3 ∧ t ≤ 3 ∧ ∀ (p : Poly) v H', PolyOk p → Rp H' (encP p) v → SameX [d, l] H H' → TK H H' → Deck H' d l → Q v H'
abbrev nn_law_drawn_poly : List Str := ["_law_deck_here", "_law_many", "_law_most", "_law_found", "_law_turn", "_law_e"]
theorem sc_law_drawn_poly : FnScope nn_law_drawn_poly ["_law_deck_here", "_law_many", "_law_most"] d_law_drawn_poly.scope := ⟨rfl, rfl, rfl, by decide +kernel, rfl, by decide +kernel, by decide +kernel⟩
theorem ok_law_drawn_poly (T : Top w K mg) : OK P w K mg base 3 "_law_drawn_poly" ["_law_deck_here", "_law_many", "_law_most"] sp_law_drawn_poly := by
  refine Has.ok (d := d_law_drawn_poly) (T.has 66 68 rfl rfl rfl rfl rfl) sc_law_drawn_poly (fun _ _ _ _ _ _ us hl => match us, hl with | [_, _, _], _ => rfl) (by rintro _ _ _ _ ⟨_, _, _, _, rfl, _⟩; rfl) (fun f cdv A outer s H vs Q E hRm h => ?_)
  obtain ⟨d, l, m, t, rfl, hD, hm, ht, q⟩ := h
  refine ⟨_, (pss_cons (ps_set (i := 3) sc_law_drawn_poly.nd rfl (.inr rfl) pe_dnewK)
    (pss_cons (ps_for PassesOwn.never rfl (pi_range1 (by rfl) (T.free 99) (pa_cons (pe_c (ok_law_draw T) (hRm.mono (by decide)) (by rfl) (pa_cons (pv 0) (pa_cons (pe_op op_add (pv 1) pe_int) pa_nil))) pa_nil)) (pg_name (i := 4) sc_law_drawn_poly.nd rfl (.inl rfl)) (pss_one (ps_dput (hu_of hRm) (pv 3) (pe_c (ok_law_draw T) (hRm.mono (by decide)) (by rfl) (pa_cons (pv 0) (pa_cons (pe_op op_add (pv 2) pe_int) pa_nil))) (pe_c (ok_law_pick T) (hRm.mono (by decide)) (by rfl) (pa_cons (pv 0) (pa_cons (pe_lst (pa_cons pe_int (pa_cons pe_int (pa_cons pe_int (pa_cons pe_int (pa_cons pe_int (pa_cons (pe_op op_add pe_int (pe_c (ok_law_draw T) (hRm.mono (by decide)) (by rfl) (pa_cons (pv 0) (pa_cons pe_int pa_nil)))) (pa_cons (pe_op op_add pe_int (pe_c (ok_law_draw T) (hRm.mono (by decide)) (by rfl) (pa_cons (pv 0) (pa_cons (pe_op op_pow pe_int pe_int) pa_nil)))) pa_nil)))))))) pa_nil))) rfl)))
    (pss_one (ps_ret (pe_callTy tupL (by rfl) (T.free 97) (by decide +kernel) (pa_cons (pe_lc (own := [("_law_e", 5)]) rfl sc_law_drawn_poly.nd (pi_list (pe_callB (call_sortedDI rfl) (by rfl) (T.free 100) (by decide +kernel) (pa_cons (pv 3) pa_nil))) (blkOk_by (N := nn_law_drawn_poly) (sc := d_law_drawn_poly.scope) (by decide +kernel)) (fun _ _ _ _ _ => (pg_name (i := 5) sc_law_drawn_poly.nd rfl (.inl rfl))) (fun _ _ _ _ _ => pts_nil) (fun _ _ _ _ _ => (pe_tup (pa_cons (pv 5) (pa_cons (pe_dget (hu_of hRm) (pv 3) (pv 5) (fun _ _ => rfl)) pa_nil))))) pa_nil)))))), ?_⟩
  have big : 1000 ≤ sizeLine := by decide
  intro F hF
  have st : Same H (upd H F (.dK [])) := same_upd hF
  have hF1 : (upd H F (.dK [])) F = some (.dK (pk [])) := upd_same
  have hd0 := hD.same st
  have hFd : F ≠ d := fun e => by obtain ⟨_, _, z⟩ := hD.ex; rw [← e, hF] at z; cases z
  have hFl : F ≠ l := fun e => by obtain ⟨_, z, _⟩ := hD.ls; rw [← e, hF] at z; cases z
  have x1 : SameX [d, l] H (upd H F (.dK [])) := same_x st _
  have k1 : TK H (upd H F (.dK [])) := same_tk st
  generalize upd H F (.dK []) = H1 at st hF1 hd0 x1 k1 ⊢
  refine ⟨_, rfl, _, rfl, _, _, rfl, rfl, d, l, m + 1, rfl, hd0, by omega, by omega, fun r H2 hr sx tk dD => ?_⟩
  have hF2 := sx _ _ hF1 (by simp [hFd, hFl])
  have x2 := x1.trans sx
  have k2 := k1.trans tk
  refine ⟨(r : Int), rfl, by omega, by omega, ?_⟩
  rw [Int.toNat_natCast]
  refine for_it (walk_range (lo := 0) (n := r)) (fun i σ H' => ∃ (L : Poly) (o4 : Option V), σ = [some (.ref d), some (.int m), some (.int t), some (.ref F), o4, none] ∧ SameX [d, l] H H' ∧ TK H H' ∧ Deck H' d l ∧ H' F = some (.dK (pk L)) ∧ PkOk i L) ⟨[], none, rfl, x2, k2, dD, hF2, List.nodup_nil, Nat.le_refl _, fun _ h => by cases h⟩ (fun _ _ _ _ _ => trivial) (fun i x σ H3 H4 hi hp hy => ?_) (fun σ H3 hp => ?_)
  · obtain ⟨L, o4, rfl, x3, k3, d3, hF3, hL⟩ := hp
    obtain ⟨rfl, rfl⟩ := hy
    have z1 : ∀ {G G' : Hp}, SameX [d, l] G G' → G F = some (.dK (pk L)) → G' F = some (.dK (pk L)) := fun sg g => sg _ _ g (by simp [hFd, hFl])
    have z0 : ∀ {G G' : Hp}, SameX [d, l] G G' → G F = some (.dK (pk L)) → G' F = some (.dK (pk L)) := fun sg g => sg _ _ g (by simp [hFd, hFl])
    refine ⟨_, rfl, _, rfl, d, l, 30, rfl, d3, by decide, by decide, fun r1 H5 hr1 sx5 tk5 dD5 => ?_⟩
    refine ⟨_, _, rfl, rfl, _, rfl, _, _, rfl, rfl, ⟨by decide, by decide, by decide⟩, d, l, 1000000000000, rfl, dD5, by decide, by decide, fun r2 H6 hr2 sx6 tk6 dD6 => ?_⟩
    refine ⟨_, _, rfl, rfl, by show 7 ≤ sizeLine; omega, fun A hA => ?_⟩
    have x6 := sx5.trans sx6
    have k6 := tk5.trans tk6
    have hAd : A ≠ d := fun e => by obtain ⟨_, _, z⟩ := dD6.ex; rw [← e, hA] at z; cases z
    have hAl : A ≠ l := fun e => by obtain ⟨_, z, _⟩ := dD6.ls; rw [← e, hA] at z; cases z
    have hF6 := z0 x6 hF3
    have hin : ∀ x ∈ ([V.int 1, V.int 1, V.int 2, V.int 3, V.int 10, V.int (1 + (r1 : Int)), V.int (1 + (r2 : Int))] : List V), ∃ c : Nat, x = .int (c : Int) ∧ 1 ≤ c ∧ c ≤ 1000000000000 := by
      intro x hx
      simp only [List.mem_cons, List.not_mem_nil, or_false] at hx
      rcases hx with e | e | e | e | e | e | e
      · exact ⟨1, e, by decide, by decide⟩
      · exact ⟨1, e, by decide, by decide⟩
      · exact ⟨2, e, by decide, by decide⟩
      · exact ⟨3, e, by decide, by decide⟩
      · exact ⟨10, e, by decide, by decide⟩
      · exact ⟨1 + r1, e, by omega, by omega⟩
      · exact ⟨1 + r2, e, by omega, by omega⟩
    have s6 : Same H6 (upd H6 A (.lst [V.int 1, V.int 1, V.int 2, V.int 3, V.int 10, V.int (1 + (r1 : Int)), V.int (1 + (r2 : Int))])) := same_upd hA
    refine ⟨d, l, A, _, rfl, dD6.same s6, upd_same, hAl, List.cons_ne_nil _ _, by show 7 ≤ 2000000000000; decide, fun x H7 hx sx7 tk7 dD7 => ?_⟩
    obtain ⟨c, rfl, hc1, hc2⟩ := hin x hx
    have x7 : SameX [d, l] H4 H7 := (x6.trans (same_x s6 _)).trans sx7
    have k7 : TK H4 H7 := (k6.trans (same_tk s6)).trans tk7
    refine ⟨_, rfl, _, rfl, _, rfl, _, _, rfl, rfl, d, l, t + 1, rfl, dD7, by omega, by omega, fun e H8 he sx8 tk8 dD8 => ?_⟩
    have x8 := x7.trans sx8
    have k8 := k7.trans tk8
    have hF8 := z0 x8 hF3
    obtain ⟨L', hput, hL'⟩ := pk_put hL (e := e) (c := c) (by omega) hc1 hc2
    refine ⟨F, _, rfl, DPut.k (k := Sum.inl (e : Int)) hF8 (by unfold pk; rw [List.length_map]; have := hL.2.1; omega), ?_⟩
    rw [hput]
    refine ⟨L', _, rfl, ?_, (k3.trans k8).trans (tk_upd fun q z => by rw [hF8] at z; cases z), dD8.keep (upd_ne (Ne.symm hFd)) (upd_ne (Ne.symm hFl)), upd_same, hL'⟩
    intro b o hb hn
    rw [upd_ne (fun z => by rw [z, hF] at hb; cases hb)]
    exact (x3.trans x8) b o hb hn
  · obtain ⟨L, o4, rfl, x3, k3, d3, hF3, hL⟩ := hp
    have hlen := hL.2.1
    refine ⟨_, rfl, F, pk L, L.map fun q => (q.1 : Int), rfl, .of hF3, pk_keys L, by rw [List.length_map]; omega, fun ys p0 hys ho hp0 => ?_⟩
    obtain ⟨pl, hpl, rfl, hpn, hpm⟩ := pk_sorted hL hys ho
    have s4 : Same H3 (upd H3 p0 (.lst ((pl.map fun q => (q.1 : Int)).map V.int))) := same_upd hp0
    have hp4 : (upd H3 p0 (.lst ((pl.map fun q => (q.1 : Int)).map V.int))) p0 = some (.lst ((pl.map fun q => (q.1 : Int)).map V.int)) := upd_same
    generalize upd H3 p0 (.lst ((pl.map fun q => (q.1 : Int)).map V.int)) = H4 at s4 hp4 ⊢
    refine ⟨p0, rfl, ⟨_, .of hp4⟩, fun D hD => ?_⟩
    refine lc_map walk_list hD (by rw [List.length_map, List.length_map]; omega) (fun H' s1 => .of (s1 _ _ hp4)) (fun i y G => ∃ q, pl[i]? = some q ∧ Rp G (encQ q) y) (fun i y G G' ⟨q, z1, z2⟩ k => ⟨q, z1, z2.tk k⟩) (fun i x H5 H6 hi s5 hy C k => ?_) fun ys1 H5 hn s5 hD5 hr5 => ?_
    · obtain ⟨rfl, hx⟩ := hy
      rw [List.map_map, List.getElem?_map] at hx
      obtain ⟨q1, hq1, rfl⟩ := Option.map_eq_some_iff.mp hx
      have hg : DGet H6 F (.int (q1.1 : Int)) (some (.int (q1.2 : Int))) := by
        have := DGet.k (k := Sum.inl (q1.1 : Int)) (s5 _ _ (s4 _ _ hF3))
        rwa [pk_get hL.1 (hpm _ (List.mem_of_getElem? hq1))] at this
      exact ⟨rfl, _, rfl, _, rfl, _, rfl, F, _, rfl, hg, by show 2 ≤ sizeLine; omega, fun u hu => k _ _ (same_upd hu) ⟨q1, hq1, u, _, rfl, upd_same, rpl2 q1⟩⟩
    · refine ⟨D, ys1, rfl, hD5, fun v hv => ?_⟩
      have s6 : Same H3 (upd H5 v (.tup ys1)) := (s4.trans s5).trans (same_upd hv)
      refine q pl _ _ hpl ⟨v, ys1, rfl, upd_same, ?_⟩ (x3.trans (same_x s6 _)) (k3.trans (same_tk s6)) (d3.same s6)
      have hln : ys1.length = (pl.map encQ).length := by rw [hn, List.length_map, List.length_map, List.length_map]
      refine RpL.of hln fun i d x h1 h2 => ?_
      obtain ⟨q1, z1, z2⟩ := hr5 i x h2
      rw [List.getElem?_map, z1] at h1
      cases h1
      exact z2.same (same_upd hv)
end
end NP
/-! NPLet -/
namespace NP
open PySem PySem.Spec PyProof.Rows L2 TL SX
section
variable {P : Program} {w : World} {K : PySem.W.Frag} {mg : Str → Option Value} {base : Heap}
def ltW : List Str := ["ab", "abc", "xyz", "abcdefgh", "z", "az", "n", "do", "is", "not", "empty", "abcdefghijklmnopqrstuvwxyz"]
theorem ltW_ok : ∀ z ∈ ltW, Lts z := by
  unfold Lts ltW
  decide +kernel
theorem joinL_ones : ∀ ts : List Nat, TL.joinL [] (ts.map fun c => [c]) = ts
  | [] => rfl
  | [c] => rfl
  | c :: c2 :: r => by
    have := joinL_ones (c2 :: r)
    show [c] ++ [] ++ TL.joinL [] ((c2 :: r).map fun c => [c]) = c :: c2 :: r
    rw [this]; rfl
theorem join_ones (ts : List Nat) : Txt.join "" (ts.map fun c => (⟨#[c]⟩ : Str)) = S ts := by
  have := join_S [] (ts.map fun c => [c])
  rw [joinL_ones, List.map_map] at this
  exact this
theorem lts_sub {z : Str} {ts : List Nat} (h : Lts z) (hn : ts ≠ []) (hs : ts.Sublist (tl z)) : Lts (S ts) := by
  have e : tl (S ts) = ts := rfl
  unfold Lts
  rw [e]
  exact ⟨hn, h.2.1.sublist hs, fun c hc => h.2.2.1 c (hs.subset hc), Nat.le_trans hs.length_le h.2.2.2⟩
def sp_law_drawn_letters : Sp := fun vs H Q _ => ∃ (d l : Addr), vs = [.ref d] ∧ Deck H d l ∧ ∀ z H', Lts z → SameX [d, l] H H' → TK H H' → Deck H' d l → Q (.str z) H'
abbrev nn_law_drawn_letters : List Str := ["_law_deck_here", "_law_word", "_law_found", "_law_x"]
theorem sc_law_drawn_letters : FnScope nn_law_drawn_letters ["_law_deck_here"] d_law_drawn_letters.scope := ⟨rfl, rfl, rfl, by decide +kernel, rfl, by decide +kernel, by decide +kernel⟩
theorem ok_law_drawn_letters (T : Top w K mg) : OK P w K mg base 3 "_law_drawn_letters" ["_law_deck_here"] sp_law_drawn_letters := by
  refine Has.ok (d := d_law_drawn_letters) (T.has 73 75 rfl rfl rfl rfl rfl) sc_law_drawn_letters (fun _ _ _ _ _ _ us hl => match us, hl with | [_], _ => rfl) (by rintro _ _ _ _ ⟨_, _, rfl, _⟩; rfl) (fun f cdv A outer s H vs Q E hRm h => ?_)
  obtain ⟨d, l, rfl, hD, q⟩ := h
  refine ⟨_, (pss_cons (ps_set (i := 1) sc_law_drawn_letters.nd rfl (.inl rfl) (pe_c (ok_law_pick T) (hRm.mono (by decide)) (by rfl) (pa_cons (pv 0) (pa_cons (pe_lst (pa_cons pe_str (pa_cons pe_str (pa_cons pe_str (pa_cons pe_str (pa_cons pe_str (pa_cons pe_str (pa_cons pe_str (pa_cons pe_str (pa_cons pe_str (pa_cons pe_str (pa_cons pe_str (pa_cons pe_str pa_nil))))))))))))) pa_nil))))
    (pss_cons (ps_setLc (i := 2) (own := [("_law_x", 3)]) rfl sc_law_drawn_letters.nd rfl rfl (sw_true rfl rfl rfl (by decide +kernel)) (pi_str (pv 1)) (blkOk_by (N := nn_law_drawn_letters) (sc := d_law_drawn_letters.scope) (by decide +kernel)) (fun _ _ _ _ _ => (pg_name (i := 3) sc_law_drawn_letters.nd rfl (.inl rfl))) (fun _ _ _ _ _ => (pts_one (pt_cmpR op_gt (pe_c (ok_law_draw T) (hRm.mono (by decide)) (by rfl) (pa_cons (pv 0) (pa_cons pe_int pa_nil))) pe_int (nomark _)))) (fun _ _ _ _ _ => (pv 3)))
    (pss_one (ps_ret (pe_ifExp (PW.pt (pw_and (pt_cmpR (op_neNilL hRm.units0) (pv 2) (pe_lst pa_nil) (nomark _)) (pw_and1 (pt_cmpR op_eq (pe_c (ok_law_draw T) (hRm.mono (by decide)) (by rfl) (pa_cons (pv 0) (pa_cons pe_int pa_nil))) pe_int (nomark _))))) (pe_join pe_str (pv 2)) (pv 1)))))), ?_⟩
  refine ⟨_, rfl, by show 12 ≤ sizeLine; decide, fun A hA => ?_⟩
  have hAl : A ≠ l := fun e => by obtain ⟨_, z, _⟩ := hD.ls; rw [← e, hA] at z; cases z
  have s1 : Same H (upd H A (.lst (ltW.map V.str))) := same_upd hA
  refine ⟨d, l, A, ltW.map V.str, rfl, hD.same s1, upd_same, hAl, List.cons_ne_nil _ _, by show 12 ≤ 2000000000000; decide, fun x H1 hx sx1 tk1 dD1 => ?_⟩
  obtain ⟨z, hz, rfl⟩ := List.mem_map.mp hx
  have hL := ltW_ok z hz
  have x1 : SameX [d, l] H H1 := (same_x s1 _).trans sx1
  have k1 : TK H H1 := (same_tk s1).trans tk1
  refine ⟨_, rfl, z, rfl, fun D hD0 => ?_⟩
  have hDl : D ≠ l := fun e => by obtain ⟨_, w, _⟩ := dD1.ls; rw [← e, hD0] at w; cases w
  have hDd : D ≠ d := fun e => by obtain ⟨_, _, w⟩ := dD1.ex; rw [← e, hD0] at w; cases w
  have s2 : Same H1 (upd H1 D (.lst [])) := same_upd hD0
  refine lc_it walk_str (fun i G => SameX [d, l] H1 G ∧ TK H1 G ∧ Deck G d l ∧ ∃ ts : List Nat, ts.Sublist ((tl z).take i) ∧ G D = some (.lst (ts.map fun c => V.str ⟨#[c]⟩))) ⟨same_x s2 _, same_tk s2, dD1.same s2, [], List.nil_sublist _, upd_same⟩ (fun _ _ _ _ => trivial) (fun i x G G' hi h hy => ?_) fun G h => ?_
  · obtain ⟨x2, k2, d2, ts, hts, hD2⟩ := h
    obtain ⟨rfl, c, hc, rfl⟩ := hy
    refine ⟨rfl, _, rfl, d, l, 4, rfl, d2, by decide, by decide, fun r G2 hr sx2 tk2 dD2 => ?_⟩
    have hD3 := sx2 _ _ hD2 (by simp [hDl, hDd])
    have hcl : (tl z)[i]? = some c := by unfold tl; rw [Array.getElem?_toList]; exact hc
    have htk : (tl z).take (i + 1) = (tl z).take i ++ [c] := by rw [List.take_succ, hcl]; rfl
    refine ⟨_, _, rfl, rfl, _, rfl, ?_⟩
    by_cases hr0 : (0 : Int) < (r : Int)
    · refine iteDt hr0 ?_
      refine ⟨_, rfl, _, hD3, ?_, ?_, (k2.trans tk2).trans (tk_upd fun q z => by rw [hD3] at z; cases z), dD2.keep (upd_ne (Ne.symm hDd)) (upd_ne (Ne.symm hDl)), ts ++ [c], by rw [htk]; exact hts.append (List.Sublist.refl _), by rw [List.map_append]; exact upd_same⟩
      · have a1 := hts.length_le
        have a2 := hL.2.2.2
        rw [List.length_take] at a1
        rw [List.length_map]
        have big : 1000 ≤ sizeLine := by decide
        omega
      · intro b o hb hn
        rw [upd_ne (fun z => by rw [z, hD0] at hb; cases hb)]
        exact (x2.trans sx2) b o hb hn
    · refine iteDf hr0 ?_
      exact ⟨x2.trans sx2, k2.trans tk2, dD2, ts, by rw [htk]; exact hts.trans (List.sublist_append_left _ _), hD3⟩
  · obtain ⟨x2, k2, d2, ts, hts, hD2⟩ := h
    have hts : ts.Sublist (tl z) := hts.trans (List.take_sublist _ _)
    refine ⟨_, rfl, by show 0 ≤ sizeLine; decide, fun B hB => ?_⟩
    have s3 : Same G (upd G B (.lst [])) := same_upd hB
    have d3 := d2.same s3
    have hD3 := s3 _ _ hD2
    have x3 := (x1.trans x2).trans (same_x s3 _)
    have k3 := (k1.trans k2).trans (same_tk s3)
    refine ⟨D, B, _, rfl, rfl, .of hD3, .of upd_same, _, rfl, ?_⟩
    generalize upd G B (.lst []) = G3 at s3 d3 hD3 x3 k3 ⊢
    by_cases hn : ts = []
    · subst hn
      refine iteF ?_
      exact ⟨_, rfl, q z _ hL x3 k3 d3⟩
    · have hne : (ts.map fun c => V.str ⟨#[c]⟩).isEmpty = false := by cases ts with
        | nil => exact absurd rfl hn
        | cons _ _ => rfl
      rw [hne]
      refine iteT ?_
      refine ⟨_, rfl, d, l, 2, rfl, d3, by decide, by decide, fun r G4 hr sx tk dD => ?_⟩
      have x4 := x3.trans sx
      have k4 := k3.trans tk
      have hD4 := sx _ _ hD3 (by simp [hDl, hDd])
      refine ⟨rfl, _, rfl, ?_⟩
      by_cases hr0 : (V.int (r : Int)) = V.int 0
      · refine iteDt hr0 ?_
        refine ⟨⟨_, rfl⟩, _, rfl, _, D, ts.map fun c => (⟨#[c]⟩ : Str), rfl, rfl, .inl (.of (by rw [List.map_map]; exact hD4)), ?_, ?_⟩
        · refine join_fits (m := 1) (n := 26) (fun y hy => ?_) ?_ (by decide)
          · obtain ⟨c, _, rfl⟩ := List.mem_map.mp hy
            exact Nat.le_refl 1
          · rw [List.length_map]
            exact Nat.le_trans hts.length_le hL.2.2.2
        · refine q _ _ ?_ x4 k4 dD
          rw [join_ones]
          exact lts_sub hL hn hts
      · refine iteDf hr0 ?_
        exact ⟨_, rfl, q z _ hL x4 k4 dD⟩
end
end NP
/-! NPHeads -/
namespace NP
open PySem PySem.Spec PyProof.Rows L2 TL
/-! ## names drawn from what is left of the pool -/
theorem sIx_nat {i n : Nat} (h : i < n) : seqIndex? (i : Int) n = some i := by
  have h1 : ¬ ((i : Int) < 0) := by omega
  have h2 : ((0 : Int) ≤ (i : Int)) := by omega
  have h3 : ((i : Int) < (n : Int)) := by omega
  unfold seqIndex?
  simp only [h1, h2, h3, if_false, decide_true, Bool.and_self, if_true]
  rfl
theorem map_erase {α β : Type} (f : α → β) : ∀ (xs : List α) (k : Nat), (xs.map f).eraseIdx k = (xs.eraseIdx k).map f
  | [], _ => rfl
  | _ :: _, 0 => rfl
  | x :: xs, k + 1 => by
    show f x :: (xs.map f).eraseIdx k = f x :: (xs.eraseIdx k).map f
    rw [map_erase f xs k]
structure Left (ws ns : List Str) (i : Nat) : Prop where
  nd : ws.Nodup
  sub : ∀ z ∈ ws, z ∈ pool
  out : ∀ z ∈ ns, z ∉ ws
  len : ws.length = 21 - i
  nns : ns.Nodup
  nsub : ∀ z ∈ ns, z ∈ pool
  nlen : ns.length ≤ i
theorem left0 : Left poolW [] 0 := ⟨by decide +kernel, fun z h => h, (fun z h => by cases h), rfl, List.nodup_nil, (fun z h => by cases h), Nat.le_refl _⟩
theorem Left.pop {ws ns : List Str} {i r : Nat} {z : Str} (h : Left ws ns i) (hz : ws[r]? = some z) : Left (ws.eraseIdx r) (ns ++ [z]) (i + 1) := by
  obtain ⟨hr, e⟩ := List.getElem?_eq_some_iff.mp hz
  have hm : z ∈ ws := List.mem_of_getElem? hz
  have hne : z ∉ ws.eraseIdx r := by
    intro hm2
    obtain ⟨j, hj, hjr, e2⟩ := List.mem_eraseIdx_iff_getElem.mp hm2
    have nd := List.pairwise_iff_getElem.mp (List.nodup_iff_pairwise_ne.mp h.nd)
    rcases Nat.lt_or_gt_of_ne hjr with a | a
    · exact nd j r hj hr a (by rw [e, e2])
    · exact nd r j hr hj a (by rw [e, e2])
  have sl : (ws.eraseIdx r).Sublist ws := List.eraseIdx_sublist _ _
  refine ⟨h.nd.sublist sl, fun y hy => h.sub y (sl.subset hy), fun y hy hy2 => ?_, ?_, ?_, ?_, ?_⟩
  · rcases List.mem_append.mp hy with a | a
    · exact h.out y a (sl.subset hy2)
    · rw [List.mem_singleton] at a; subst a; exact hne hy2
  · rw [List.length_eraseIdx, if_pos hr, h.len]; omega
  · rw [List.nodup_append]
    refine ⟨h.nns, by simp, fun x hx y hy => ?_⟩
    rw [List.mem_singleton] at hy; subst hy
    exact fun z2 => h.out x hx (z2 ▸ hm)
  · intro y hy
    rcases List.mem_append.mp hy with a | a
    · exact h.nsub y a
    · rw [List.mem_singleton] at a; subst a; exact h.sub _ hm
  · rw [List.length_append, List.length_singleton]; have := h.nlen; omega
structure HdsOk (n : Nat) (hs : List (Str × Poly)) : Prop where
  nd : (hs.map (·.1)).Nodup
  ok : ∀ h ∈ hs, h.1 ∈ pool ∧ PolyOk h.2
  len : hs.length ≤ n
section
variable {P : Program} {w : World} {K : PySem.W.Frag} {mg : Str → Option Value} {base : Heap}
def sp_law_drawn_heads : Sp := fun vs H Q _ => ∃ (d l : Addr) (m : Nat), vs = [.ref d, .int m] ∧ Deck H d l ∧ m ≤ 3 ∧ ∀ (hs : List (Str × Poly)) v H', HdsOk m hs → Rp H' (.tuple (hs.map encH)) v → SameX [d, l] H H' → TK H H' → Deck H' d l → Q v H'
abbrev nn_law_drawn_heads : List Str := ["_law_deck_here", "_law_many", "_law_left", "_law_found", "_law_turn"]
theorem sc_law_drawn_heads : FnScope nn_law_drawn_heads ["_law_deck_here", "_law_many"] d_law_drawn_heads.scope := ⟨rfl, rfl, rfl, by decide +kernel, rfl, by decide +kernel, by decide +kernel⟩
theorem ok_law_drawn_heads (T : Top w K mg) : OK P w K mg base 4 "_law_drawn_heads" ["_law_deck_here", "_law_many"] sp_law_drawn_heads := by
  refine Has.ok (d := d_law_drawn_heads) (T.has 77 79 rfl rfl rfl rfl rfl) sc_law_drawn_heads (fun _ _ _ _ _ _ us hl => match us, hl with | [_, _], _ => rfl) (by rintro _ _ _ _ ⟨_, _, _, rfl, _⟩; rfl) (fun f cdv A outer s H vs Q E hRm h => ?_)
  obtain ⟨d, l, m, rfl, hD, hm, q⟩ := h
  refine ⟨_, (pss_cons (ps_par (i := 2) (j := 3) rfl sc_law_drawn_heads.nd rfl rfl (by decide) rfl rfl (pa_cons (pe_c0 (ok_law_pool T) (hRm.mono (by decide)) (by rfl)) (pa_cons (pe_lst pa_nil) pa_nil)) (by rfl))
    (pss_cons (ps_for PassesOwn.never rfl (pi_range1 (by rfl) (T.free 99) (pa_cons (pe_c (ok_law_draw T) (hRm.mono (by decide)) (by rfl) (pa_cons (pv 0) (pa_cons (pe_op op_add (pv 1) pe_int) pa_nil))) pa_nil)) (pg_name (i := 4) sc_law_drawn_heads.nd rfl (.inl rfl)) (pss_one (ps_expr (pe_bm PySem.F.plainAttrs_list PySem.F.slot_list_append PySem.F.type_list_append mt_append (pv 3) (pa_cons (pe_tup (pa_cons (pe_bm PySem.F.plainAttrs_list PySem.F.slot_list_pop PySem.F.type_list_pop mt_popAt (pv 2) (pa_cons (pe_c (ok_law_draw T) (hRm.mono (by decide)) (by rfl) (pa_cons (pv 0) (pa_cons (pe_callB lenA (by rfl) (T.free 92) (by decide +kernel) (pa_cons (pv 2) pa_nil)) pa_nil))) pa_nil)) (pa_cons (pe_c (ok_law_drawn_poly T) (hRm.mono (by decide)) (by rfl) (pa_cons (pv 0) (pa_cons pe_int (pa_cons pe_int pa_nil)))) pa_nil))) pa_nil)))))
    (pss_one (ps_ret (pe_callTy tupL (by rfl) (T.free 97) (by decide +kernel) (pa_cons (pv 3) pa_nil)))))), ?_⟩
  have big : 1000 ≤ sizeLine := by decide
  refine ⟨(), rfl, fun L hL => ⟨by show 0 ≤ sizeLine; decide, fun F hF => ?_⟩⟩
  have s1 : Same H (upd H L (.lst (poolW.map V.str))) := same_upd hL
  have hL1 : (upd H L (.lst (poolW.map V.str))) L = some (.lst (poolW.map V.str)) := upd_same
  generalize upd H L (.lst (poolW.map V.str)) = H1 at s1 hL1 hF ⊢
  have s2 : Same H1 (upd H1 F (.lst [])) := same_upd hF
  have hF2 : (upd H1 F (.lst [])) F = some (.lst []) := upd_same
  have hFL : F ≠ L := fun e => by rw [e, hL1] at hF; cases hF
  have hF0 : H F = none := SameX.free (S := []) (same_x s1 _) hF (by simp)
  have hL2 := s2 _ _ hL1
  generalize upd H1 F (.lst []) = H2 at s2 hF2 hL2 ⊢
  have s3 := s1.trans s2
  have nLd : L ∉ [d, l] := by
    obtain ⟨_, _, a⟩ := hD.ex
    obtain ⟨_, b, _⟩ := hD.ls
    have n1 : L ≠ d := fun e => by rw [← e, hL] at a; cases a
    have n2 : L ≠ l := fun e => by rw [← e, hL] at b; cases b
    simp [n1, n2]
  have nFd : F ∉ [d, l] := by
    obtain ⟨_, _, a⟩ := hD.ex
    obtain ⟨_, b, _⟩ := hD.ls
    have n1 : F ≠ d := fun e => by rw [← e, hF0] at a; cases a
    have n2 : F ≠ l := fun e => by rw [← e, hF0] at b; cases b
    simp [n1, n2]
  have hLd : L ≠ d ∧ L ≠ l := by simpa using nLd
  have hFd : F ≠ d ∧ F ≠ l := by simpa using nFd
  refine ⟨_, _, rfl, _, rfl, _, rfl, _, _, rfl, rfl, d, l, m + 1, rfl, hD.same s3, by omega, by omega, fun r H3 hr sx tk dD => ?_⟩
  refine ⟨(r : Int), rfl, by omega, by omega, ?_⟩
  rw [Int.toNat_natCast]
  have x3 := (same_x s3 [d, l]).trans sx
  have k3 := (same_tk s3).trans tk
  refine for_it (walk_range (lo := 0) (n := r)) (fun i σ H' => ∃ (hs : List (Str × Poly)) (ws : List Str) (us : List V) (o4 : Option V), σ = [some (.ref d), some (.int m), some (.ref L), some (.ref F), o4] ∧ SameX [d, l] H H' ∧ TK H H' ∧ Deck H' d l ∧ H' L = some (.lst (ws.map V.str)) ∧ H' F = some (.lst us) ∧ RpL H' (hs.map encH) us ∧ Left ws (hs.map (·.1)) i ∧ ∀ h ∈ hs, PolyOk h.2) ⟨[], poolW, [], none, rfl, x3, k3, dD, sx _ _ hL2 nLd, sx _ _ hF2 nFd, rfl, left0, fun _ h => by cases h⟩ (fun _ _ _ _ _ => trivial) (fun i x σ H3 H4 hi hp hy => ?_) (fun σ H3 hp => ?_)
  · obtain ⟨hs, ws, us, o4, rfl, x4, k4, d4, hL4, hF4, hr4, hl4, hok⟩ := hp
    obtain ⟨rfl, rfl⟩ := hy
    have hwl := hl4.len
    have hul := hr4.len
    have hnl := hl4.nlen
    rw [List.length_map] at hul hnl
    refine ⟨_, rfl, .inl ⟨rfl, _, .of hF4⟩, _, rfl, .inl ⟨rfl, _, .of hL4⟩, _, rfl, _, rfl, L, _, rfl, .inr hL4, d, l, ws.length, by rw [List.length_map]; rfl, d4, by omega, by omega, fun z H5 hz sx5 tk5 dD5 => ?_⟩
    have hL5 := sx5 _ _ hL4 nLd
    have hF5 := sx5 _ _ hF4 nFd
    have hz2 : ws[z]? = some ws[z] := List.getElem?_eq_getElem hz
    refine ⟨L, _, (z : Int), z, .str ws[z], rfl, rfl, hL5, by omega, by omega, by rw [List.length_map]; exact sIx_nat hz, by rw [List.getElem?_map, hz2]; rfl, ?_⟩
    have hl6 := hl4.pop hz2
    rw [show (ws.map V.str).eraseIdx z = (ws.eraseIdx z).map V.str by rw [map_erase]]
    have x6 : SameX [d, l] H (upd H5 L (.lst ((ws.eraseIdx z).map V.str))) := by
      intro b o hb hn
      rw [upd_ne (fun e => by rw [e, hL] at hb; cases hb)]
      exact (x4.trans sx5) b o hb hn
    have k6 : TK H (upd H5 L (.lst ((ws.eraseIdx z).map V.str))) := (k4.trans tk5).trans (tk_upd fun q e => by rw [hL5] at e; cases e)
    have k46 : TK H4 (upd H5 L (.lst ((ws.eraseIdx z).map V.str))) := tk5.trans (tk_upd fun q e => by rw [hL5] at e; cases e)
    have d6 : Deck (upd H5 L (.lst ((ws.eraseIdx z).map V.str))) d l := dD5.keep (upd_ne (Ne.symm hLd.1)) (upd_ne (Ne.symm hLd.2))
    have hL6 : (upd H5 L (.lst ((ws.eraseIdx z).map V.str))) L = some (.lst ((ws.eraseIdx z).map V.str)) := upd_same
    have hF6 : (upd H5 L (.lst ((ws.eraseIdx z).map V.str))) F = some (.lst us) := by rw [upd_ne hFL]; exact hF5
    generalize upd H5 L (.lst ((ws.eraseIdx z).map V.str)) = H6 at x6 k6 k46 d6 hL6 hF6 ⊢
    generalize ws[z] = nm at hz2 hl6 ⊢
    refine ⟨_, rfl, d, l, 3, 3, rfl, d6, by decide, by decide, fun p v H7 hp hv sx7 tk7 dD7 => ⟨by show 2 ≤ sizeLine; decide, fun u hu => ?_⟩⟩
    have s8 : Same H7 (upd H7 u (.tup [.str nm, v])) := same_upd hu
    have hv8 : Rp (upd H7 u (.tup [.str nm, v])) (encH (nm, p)) (.ref u) := ⟨u, _, rfl, upd_same, .str nm, [v], rfl, rfl, v, [], rfl, hv.same s8, rfl⟩
    generalize upd H7 u (.tup [.str nm, v]) = H8 at s8 hv8 ⊢
    have x8 := (x6.trans sx7).trans (same_x s8 _)
    have k8 := (k6.trans tk7).trans (same_tk s8)
    have k48 := (k46.trans tk7).trans (same_tk s8)
    have d8 := dD7.same s8
    have hL8 := s8 _ _ (sx7 _ _ hL6 nLd)
    have hF8 := s8 _ _ (sx7 _ _ hF6 nFd)
    refine ⟨F, _, _, rfl, rfl, hF8, by omega, ?_⟩
    have kF : ∀ o, TK H8 (upd H8 F o) := fun o => tk_upd fun q e => by rw [hF8] at e; cases e
    refine ⟨hs ++ [(nm, p)], ws.eraseIdx z, us ++ [.ref u], _, rfl, ?_, k8.trans (kF _), d8.keep (upd_ne (Ne.symm hFd.1)) (upd_ne (Ne.symm hFd.2)), by rw [upd_ne (Ne.symm hFL)]; exact hL8, upd_same, ?_, by rw [List.map_append]; exact hl6, ?_⟩
    · intro b o hb hn
      rw [upd_ne (fun e => by rw [e, hF0] at hb; cases hb)]
      exact x8 b o hb hn
    · rw [List.map_append]
      exact (hr4.tk (k48.trans (kF _))).app ⟨_, [], rfl, hv8.tk (kF _), rfl⟩
    · intro h hh
      rcases List.mem_append.mp hh with e | e
      · exact hok h e
      · rw [List.mem_singleton] at e; subst e; exact hp
  · obtain ⟨hs, ws, us, o4, rfl, x4, k4, d4, hL4, hF4, hr4, hl4, hok⟩ := hp
    have hnl := hl4.nlen
    rw [List.length_map] at hnl
    refine ⟨_, rfl, F, us, rfl, hF4, fun v hv => ?_⟩
    have s5 : Same H3 (upd H3 v (.tup us)) := same_upd hv
    refine q hs _ _ ⟨hl4.nns, fun h hh => ⟨hl4.nsub _ (List.mem_map_of_mem hh), hok h hh⟩, by omega⟩ ⟨v, us, rfl, upd_same, hr4.same s5⟩ (x4.trans (same_x s5 _)) (k4.trans (same_tk s5)) (d4.same s5)
end
end NP
/-! NPNone -/
namespace NP
open PySem PySem.Spec PyProof.Rows L2
section
variable {P : Program} {w : World} {K : PySem.W.Frag} {mg : Str → Option Value} {base : Heap}
/-- a def's promise, with its function object known -/
def OKD (P : Program) (w : World) (K : PySem.W.Frag) (mg : Str → Option Value) (base : Heap) (k : Nat) (d : He.DefD) (ps : List Str) (sp : Sp) : Prop :=
  ∃ fd, FunD K d.name d.qual d.params d.body d.scope [] [] (He.ga K d.name) fd ∧ FnOk P w K mg base CX0 k (He.ga K d.name) fd ps sp ∧ mg d.name = some (.ref (He.ga K d.name))
theorem Has.okD {d : He.DefD} (D : Has K mg d) {N ps : List Str} {k : Nat} {sp : Sp} (S : FnScope N ps d.scope) (len : ∀ vs H Q E, sp vs H Q E → vs.length = ps.length)
    (body : ∀ (f : Addr) (cdv : Value) (A : Around) (outer : List Env) (s : Shared) (H : Hp) (vs : List V) (Q : VK) (E : XK), Room k (A.deeper (envOfC d.qual d.scope s.heap.objs.size f cdv)) → sp vs H Q E →
      ∃ t, PSs (cxOf CX0 P w K mg base N d.qual d.scope f cdv A outer s H E).nox d.body t ∧ t { nx := fun _ H' => Q .non H', rt := Q } (start N vs) H) : OKD P w K mg base (k + 1) d ps sp := by
  obtain ⟨⟨fd, F⟩, hm⟩ := D
  refine ⟨fd, F, F.ok S len (fun cdv A outer s H vs Q E hr h => ?_), hm⟩
  obtain ⟨t, h1, h2⟩ := body _ cdv A outer s H vs Q E hr h
  exact ⟨t, h1.nox, h2⟩
theorem OKD.ok {d : He.DefD} {ps : List Str} {k : Nat} {sp : Sp} (O : OKD P w K mg base k d ps sp)
    (b : ∀ (kV doc pm : Value) (an : Option Addr) (cdv ct : Value) (us : List Value), us.length = ps.length → bindArgs (PySem.W.fnOf d.name d.qual d.params d.body d.scope .none kV doc pm an cdv ct) ⟨us, []⟩ = pure (ps.zip us)) : OK P w K mg base k d.name ps sp := by
  obtain ⟨fd, F, G, hm⟩ := O
  exact ⟨_, fd, G, hm, F.kp, F.bindsN b⟩
theorem OKD.named {d : He.DefD} {y : Str} {k : Nat} {sp : Sp} (O : OKD P w K mg base k d [y] sp)
    (b1 : ∀ (kV doc pm : Value) (an : Option Addr) (cdv ct u : Value), bindArgs (PySem.W.fnOf d.name d.qual d.params d.body d.scope .none kV doc pm an cdv ct) ⟨[u], []⟩ = pure [(y, u)])
    (b2 : ∀ (kV doc pm : Value) (an : Option Addr) (cdv ct u : Value), bindArgs (PySem.W.fnOf d.name d.qual d.params d.body d.scope .none kV doc pm an cdv ct) ⟨[], [(y, u)]⟩ = pure [(y, u)]) :
    ∃ fd, FnOk P w K mg base CX0 k (He.ga K d.name) fd [y] sp ∧ mg d.name = some (.ref (He.ga K d.name)) ∧ PySem.W.keepIn K (.ref (He.ga K d.name)) = true ∧ KBinds K fd [y] [y] (fun us ws => us ++ ws) (fun vs zs => vs ++ zs) := by
  obtain ⟨fd, F, G, hm⟩ := O
  refine ⟨fd, G, hm, F.kp, ⟨fun s us ws hK hl => ?_, fun r1 r2 => ?_⟩⟩
  · obtain ⟨oc, od, dV, kV, doc, pm, an, cdv, ct, osl, rfl, lk, hcd, hD, hKw⟩ := F.ex
    rcases hD with ⟨_, rfl⟩ | ⟨e, _⟩
    · match us, ws, hl with
      | [u], [], _ => exact .of_eq (b1 kV doc pm an cdv ct u)
      | [], [u], _ => exact .of_eq (b2 kV doc pm an cdv ct u)
      | _ :: _ :: _, _, hl => simp at hl
      | [_], _ :: _, hl => simp at hl
      | [], _ :: _ :: _, hl => simp at hl
    · exact absurd rfl e
  · have app : ∀ {vs : List V} {us : List Value} {zs : List V} {ws : List Value}, Vals vs us → Vals zs ws → Vals (vs ++ zs) (us ++ ws) := by
      intro vs us zs ws a b
      induction a with
      | nil => exact b
      | cons h _ ih => exact .cons h ih
    exact app r1 r2
/-- a promise that nobody can claim -/
theorem ok_none {d : He.DefD} (D : Has K mg d) {N ps : List Str} (k : Nat) (S : FnScope N ps d.scope)
    (b : ∀ (kV doc pm : Value) (an : Option Addr) (cdv ct : Value) (us : List Value), us.length = ps.length → bindArgs (PySem.W.fnOf d.name d.qual d.params d.body d.scope .none kV doc pm an cdv ct) ⟨us, []⟩ = pure (ps.zip us)) :
    OK P w K mg base (k + 1) d.name ps (fun _ _ _ _ => False) := D.ok S b (fun _ _ _ _ h => h.elim) fun _ _ _ _ _ _ _ _ _ _ h => h.elim
end
end NP
/-! NPBox -/
namespace NP
open PySem PySem.Spec PyProof.Rows L2 TL
/-! ## the box of names -/
def bx (t i k : Addr) (n : Int) : List (Key × V) := [(Sum.inr "tapes", V.ref t), (Sum.inr "indexes", V.ref i), (Sum.inr "known", V.ref k), (Sum.inr "left", V.int n)]
theorem bk1 : ¬ ((Sum.inr ("tapes" : Str) : Key) = (Sum.inr ("indexes" : Str) : Key)) := by decide +kernel
theorem bk2 : ¬ ((Sum.inr ("tapes" : Str) : Key) = (Sum.inr ("known" : Str) : Key)) := by decide +kernel
theorem bk3 : ¬ ((Sum.inr ("tapes" : Str) : Key) = (Sum.inr ("left" : Str) : Key)) := by decide +kernel
theorem bk4 : ¬ ((Sum.inr ("indexes" : Str) : Key) = (Sum.inr ("known" : Str) : Key)) := by decide +kernel
theorem bk5 : ¬ ((Sum.inr ("indexes" : Str) : Key) = (Sum.inr ("left" : Str) : Key)) := by decide +kernel
theorem bk6 : ¬ ((Sum.inr ("known" : Str) : Key) = (Sum.inr ("left" : Str) : Key)) := by decide +kernel
theorem bx_t (t i k : Addr) (n : Int) : valV (bx t i k n) (Sum.inr "tapes") = some (.ref t) := valV_pos rfl
theorem bx_i (t i k : Addr) (n : Int) : valV (bx t i k n) (Sum.inr "indexes") = some (.ref i) := (valV_neg bk1).trans (valV_pos rfl)
theorem bx_k (t i k : Addr) (n : Int) : valV (bx t i k n) (Sum.inr "known") = some (.ref k) := (valV_neg bk2).trans ((valV_neg bk4).trans (valV_pos rfl))
theorem bx_n (t i k : Addr) (n : Int) : valV (bx t i k n) (Sum.inr "left") = some (.int n) := (valV_neg bk3).trans ((valV_neg bk5).trans ((valV_neg bk6).trans (valV_pos rfl)))
theorem bx_putn (t i k : Addr) (n m : Int) : putK (bx t i k n) (Sum.inr "left") (.int m) = bx t i k m := by rfl
theorem bx_putk (t i k j : Addr) (n : Int) : putK (bx t i k n) (Sum.inr "known") (.ref j) = bx t i j n := by rfl
structure Box (H : Hp) (d l b t i k : Addr) (n : Nat) (ts is ps : List Str) : Prop where
  ex : H b = some (.dK (bx t i k n))
  ht : H t = some (.lst (ts.map V.str))
  hi : H i = some (.lst (is.map V.str))
  hk : H k = some (.lst (ps.map V.str))
  nb : b ∉ [d, l]
  nt : t ∉ [d, l]
  ni : i ∉ [d, l]
  nk : k ∉ [d, l]
theorem seq2 {A B : TS} {k : Ends} {σ : L2.St} {H : Hp} (R : Hp → Prop) (hB : ∀ H', R H' → B k σ H') (hA : (∀ H', R H' → B k σ H') → tSeq A B k σ H) : tSeq A B k σ H := hA hB
theorem dnew {H : Hp} {d l F : Addr} (h : Deck H d l) (hF : H F = none) : F ≠ l := by
  obtain ⟨_, b, _⟩ := h.ls
  exact fun e => by rw [← e, hF] at b; cases b
theorem nl2 {x d l : Addr} (h : x ∉ [d, l]) : x ≠ l := fun e => h (by simp [e])
section
variable {H H' : Hp} {d l b t i k : Addr} {n : Nat} {ts is ps : List Str}
theorem Box.keep (h : Box H d l b t i k n ts is ps) (s : SameX [d, l] H H') : Box H' d l b t i k n ts is ps := ⟨s _ _ h.ex h.nb, s _ _ h.ht h.nt, s _ _ h.hi h.ni, s _ _ h.hk h.nk, h.nb, h.nt, h.ni, h.nk⟩
theorem Box.gt (h : Box H d l b t i k n ts is ps) : DGet H b (.str "tapes") (some (.ref t)) := by have := DGet.k (k := Sum.inr "tapes") h.ex; rwa [bx_t] at this
theorem Box.gi (h : Box H d l b t i k n ts is ps) : DGet H b (.str "indexes") (some (.ref i)) := by have := DGet.k (k := Sum.inr "indexes") h.ex; rwa [bx_i] at this
theorem Box.gk (h : Box H d l b t i k n ts is ps) : DGet H b (.str "known") (some (.ref k)) := by have := DGet.k (k := Sum.inr "known") h.ex; rwa [bx_k] at this
theorem Box.gn (h : Box H d l b t i k n ts is ps) : DGet H b (.str "left") (some (.int n)) := by have := DGet.k (k := Sum.inr "left") h.ex; rwa [bx_n] at this
theorem Box.tb (h : Box H d l b t i k n ts is ps) : t ≠ b := fun e => by have a := h.ht; rw [e, h.ex] at a; cases a
theorem Box.ib (h : Box H d l b t i k n ts is ps) : i ≠ b := fun e => by have a := h.hi; rw [e, h.ex] at a; cases a
theorem Box.kb (h : Box H d l b t i k n ts is ps) : k ≠ b := fun e => by have a := h.hk; rw [e, h.ex] at a; cases a
theorem Box.put (h : Box H d l b t i k n ts is ps) (m : Nat) : Box (upd H b (.dK (bx t i k m))) d l b t i k m ts is ps :=
  ⟨upd_same, by rw [upd_ne h.tb]; exact h.ht, by rw [upd_ne h.ib]; exact h.hi, by rw [upd_ne h.kb]; exact h.hk, h.nb, h.nt, h.ni, h.nk⟩
theorem rp_ws {u : Addr} {ws : List Str} (h : H u = some (.tup (ws.map V.str))) : Rp H (encWs ws) (.ref u) := ⟨u, _, rfl, h, RpL.ofStrs ws⟩
end
theorem Tst.no_ok {ts is : List Str} {t : Tst} {n : Nat} (h : t.base.ok ts is) (hn : t.nots ≤ n) : (Tst.no t).base.ok ts is ∧ (Tst.no t).nots ≤ n + 1 := ⟨h, Nat.succ_le_succ hn⟩
section
variable {P : Program} {w : World} {K : PySem.W.Frag} {mg : Str → Option Value} {base : Heap}
def sp_law_drawn_test (n : Nat) : Sp := fun vs H Q _ => ∃ (d l b t i k : Addr) (c : Nat) (ts is ps : List Str), vs = [.ref d, .ref b, .int (n : Nat)] ∧ Deck H d l ∧ Box H d l b t i k c ts is ps ∧ ts ≠ [] ∧ is ≠ [] ∧ ts.length ≤ 1000 ∧ is.length ≤ 1000 ∧
  ∀ (x : Tst) v H', x.base.ok ts is → x.nots ≤ n → Rp H' x.enc v → SameX [d, l] H H' → TK H H' → Deck H' d l → Q v H'
abbrev nn_law_drawn_test : List Str := ["_law_deck_here", "_law_box", "_law_deep", "_law_i", "_law_j", "_law_a", "_law_b"]
theorem sc_law_drawn_test : FnScope nn_law_drawn_test ["_law_deck_here", "_law_box", "_law_deep"] d_law_drawn_test.scope := ⟨rfl, rfl, rfl, by decide +kernel, rfl, by decide +kernel, by decide +kernel⟩
theorem ok_law_drawn_test_step (T : Top w K mg) (n : Nat) (sp' : Sp) (hsp : ∀ m, n = m + 1 → sp' = sp_law_drawn_test m) (O : OK P w K mg base (n + 3) "_law_drawn_test" ["_law_deck_here", "_law_box", "_law_deep"] sp') : OK P w K mg base (n + 4) "_law_drawn_test" ["_law_deck_here", "_law_box", "_law_deep"] (sp_law_drawn_test n) := by
  have big : 1000 ≤ sizeLine := by decide
  refine Has.ok (d := d_law_drawn_test) (T.has 74 76 rfl rfl rfl rfl rfl) sc_law_drawn_test (fun _ _ _ _ _ _ us hl => match us, hl with | [_, _, _], _ => rfl) (by rintro _ _ _ _ ⟨_, _, _, _, _, _, _, _, _, _, rfl, _⟩; rfl) (fun f cdv A outer s H vs Q E hRm h => ?_)
  obtain ⟨d, l, b, t, i, k, c, ts, is, ps, rfl, hD, hB, ht0, hi0, htl, hil, q⟩ := h
  refine ⟨_, (pss_cons (ps_if (PW.pt (pw_and (pt_cmpR op_gt (pv 2) pe_int (nomark _)) (pw_and1 (pt_cmpR op_eq (pe_c (ok_law_draw T) (hRm.mono (by omega)) (by rfl) (pa_cons (pv 0) (pa_cons pe_int pa_nil))) pe_int (nomark _))))) (pss_one (ps_ret (pe_tup (pa_cons pe_str (pa_cons (pe_c O hRm (by rfl) (pa_cons (pv 0) (pa_cons (pv 1) (pa_cons (pe_op op_sub (pv 2) pe_int) pa_nil)))) pa_nil))))) pss_nil)
    (pss_cons (ps_par (i := 3) (j := 4) rfl sc_law_drawn_test.nd rfl rfl (by decide) rfl rfl (pa_cons (pe_c (ok_law_pick T) (hRm.mono (by omega)) (by rfl) (pa_cons (pv 0) (pa_cons (pe_dget (hu_of hRm) (pv 1) pe_str (fun _ _ => rfl)) pa_nil))) (pa_cons (pe_c (ok_law_pick T) (hRm.mono (by omega)) (by rfl) (pa_cons (pv 0) (pa_cons (pe_dget (hu_of hRm) (pv 1) pe_str (fun _ _ => rfl)) pa_nil))) pa_nil)) (by rfl))
    (pss_cons (ps_par (i := 5) (j := 6) rfl sc_law_drawn_test.nd rfl rfl (by decide) rfl rfl (pa_cons (pe_c (ok_law_pick T) (hRm.mono (by omega)) (by rfl) (pa_cons (pv 0) (pa_cons (pe_dget (hu_of hRm) (pv 1) pe_str (fun _ _ => rfl)) pa_nil))) (pa_cons (pe_c (ok_law_pick T) (hRm.mono (by omega)) (by rfl) (pa_cons (pv 0) (pa_cons (pe_dget (hu_of hRm) (pv 1) pe_str (fun _ _ => rfl)) pa_nil))) pa_nil)) (by rfl))
    (pss_one (ps_ret (pe_c (ok_law_pick T) (hRm.mono (by omega)) (by rfl) (pa_cons (pv 0) (pa_cons (pe_lst (pa_cons (pe_tup (pa_cons pe_str (pa_cons (pv 5) (pa_cons (pv 3) (pa_cons (pe_c (ok_law_pick T) (hRm.mono (by omega)) (by rfl) (pa_cons (pv 0) (pa_cons (pe_lst (pa_cons pe_str (pa_cons pe_str (pa_cons pe_str (pa_cons pe_str pa_nil))))) pa_nil))) pa_nil))))) (pa_cons (pe_tup (pa_cons pe_str (pa_cons (pv 5) (pa_cons (pv 3) (pa_cons (pv 6) (pa_cons (pv 4) pa_nil)))))) (pa_cons (pe_tup (pa_cons pe_str (pa_cons (pv 5) (pa_cons (pv 3) pa_nil)))) (pa_cons (pe_tup (pa_cons pe_str (pa_cons (pv 5) (pa_cons (pv 3) pa_nil)))) (pa_cons (pe_tup (pa_cons pe_str (pa_cons (pv 3) (pa_cons (pv 4) pa_nil)))) pa_nil)))))) pa_nil)))))))), ?_⟩
  have hbt : ∀ {G : Hp}, SameX [d, l] H G → Box G d l b t i k c ts is ps := fun x => hB.keep x
  have nes : ∀ {xs : List Str}, xs ≠ [] → xs.map V.str ≠ [] := fun h e => h (List.map_eq_nil_iff.mp e)
  have le2 : ∀ {xs : List Str}, xs.length ≤ 1000 → (xs.map V.str).length ≤ 2000000000000 := fun h => by rw [List.length_map]; omega
  refine seq2 (fun G => SameX [d, l] H G ∧ TK H G ∧ Deck G d l) (fun H1 h1 => ?_) (fun tail => ?_)
  · obtain ⟨x1, k1, d1⟩ := h1
    have b1 := hbt x1
    refine ⟨_, rfl, _, rfl, b, _, rfl, b1.gi, d, l, i, _, rfl, d1, b1.hi, nl2 b1.ni, nes hi0, le2 hil, fun i1 H2 hi1 sx2 k2 d2 => ?_⟩
    have x2 := x1.trans sx2
    have k2 := k1.trans k2
    have b2 := hbt x2
    obtain ⟨z1, hz1, rfl⟩ := List.mem_map.mp hi1
    refine ⟨_, rfl, _, rfl, b, _, rfl, b2.gi, d, l, i, _, rfl, d2, b2.hi, nl2 b2.ni, nes hi0, le2 hil, fun j1 H3 hj1 sx3 k3 d3 => ?_⟩
    have x3 := x2.trans sx3
    have k3 := k2.trans k3
    have b3 := hbt x3
    obtain ⟨z2, hz2, rfl⟩ := List.mem_map.mp hj1
    refine ⟨_, _, rfl, _, rfl, _, rfl, b, _, rfl, b3.gt, d, l, t, _, rfl, d3, b3.ht, nl2 b3.nt, nes ht0, le2 htl, fun a1 H4 ha1 sx4 k4 d4 => ?_⟩
    have x4 := x3.trans sx4
    have k4 := k3.trans k4
    have b4 := hbt x4
    obtain ⟨y1, hy1, rfl⟩ := List.mem_map.mp ha1
    refine ⟨_, rfl, _, rfl, b, _, rfl, b4.gt, d, l, t, _, rfl, d4, b4.ht, nl2 b4.nt, nes ht0, le2 htl, fun a2 H5 ha2 sx5 k5 d5 => ?_⟩
    have x5 := x4.trans sx5
    have k5 := k4.trans k5
    obtain ⟨y2, hy2, rfl⟩ := List.mem_map.mp ha2
    refine ⟨_, _, rfl, _, rfl, _, rfl, _, rfl, _, rfl, by show 4 ≤ sizeLine; decide, fun L1 hL1 => ?_⟩
    have s6 : Same H5 (upd H5 L1 (.lst (letters4.map V.str))) := same_upd hL1
    have nL1 := dnew d5 hL1
    refine ⟨d, l, L1, letters4.map V.str, rfl, d5.same s6, upd_same, nL1, List.cons_ne_nil _ _, by show 4 ≤ 2000000000000; decide, fun g H7 hg sx7 k7 d7 => ?_⟩
    have x7 := (x5.trans (same_x s6 _)).trans sx7
    have k7 := (k5.trans (same_tk s6)).trans k7
    obtain ⟨g, hgl, rfl⟩ := List.mem_map.mp hg
    refine ⟨by show 4 ≤ sizeLine; decide, fun u1 hu1 => ?_⟩
    have t1 : Same H7 (upd H7 u1 (.tup [V.str "is", V.str y1, V.str z1, V.str g])) := same_upd hu1
    have w1 : (upd H7 u1 (.tup [V.str "is", V.str y1, V.str z1, V.str g])) u1 = some (.tup [V.str "is", V.str y1, V.str z1, V.str g]) := upd_same
    generalize upd H7 u1 (.tup [V.str "is", V.str y1, V.str z1, V.str g]) = H8 at t1 w1 ⊢
    refine ⟨_, rfl, _, rfl, _, rfl, _, rfl, by show 5 ≤ sizeLine; decide, fun u2 hu2 => ?_⟩
    have t2 : Same H8 (upd H8 u2 (.tup [V.str "equal", V.str y1, V.str z1, V.str y2, V.str z2])) := same_upd hu2
    have w2 : (upd H8 u2 (.tup [V.str "equal", V.str y1, V.str z1, V.str y2, V.str z2])) u2 = some (.tup [V.str "equal", V.str y1, V.str z1, V.str y2, V.str z2]) := upd_same
    generalize upd H8 u2 (.tup [V.str "equal", V.str y1, V.str z1, V.str y2, V.str z2]) = H9 at t2 w2 ⊢
    refine ⟨_, rfl, _, rfl, by show 3 ≤ sizeLine; decide, fun u3 hu3 => ?_⟩
    have t3 : Same H9 (upd H9 u3 (.tup [V.str "empty", V.str y1, V.str z1])) := same_upd hu3
    have w3 : (upd H9 u3 (.tup [V.str "empty", V.str y1, V.str z1])) u3 = some (.tup [V.str "empty", V.str y1, V.str z1]) := upd_same
    generalize upd H9 u3 (.tup [V.str "empty", V.str y1, V.str z1]) = H10 at t3 w3 ⊢
    refine ⟨_, rfl, _, rfl, by show 3 ≤ sizeLine; decide, fun u4 hu4 => ?_⟩
    have t4 : Same H10 (upd H10 u4 (.tup [V.str "inside", V.str y1, V.str z1])) := same_upd hu4
    have w4 : (upd H10 u4 (.tup [V.str "inside", V.str y1, V.str z1])) u4 = some (.tup [V.str "inside", V.str y1, V.str z1]) := upd_same
    generalize upd H10 u4 (.tup [V.str "inside", V.str y1, V.str z1]) = H11 at t4 w4 ⊢
    refine ⟨_, rfl, _, rfl, by show 3 ≤ sizeLine; decide, fun u5 hu5 => ?_⟩
    have t5 : Same H11 (upd H11 u5 (.tup [V.str "at", V.str z1, V.str z2])) := same_upd hu5
    have w5 : (upd H11 u5 (.tup [V.str "at", V.str z1, V.str z2])) u5 = some (.tup [V.str "at", V.str z1, V.str z2]) := upd_same
    generalize upd H11 u5 (.tup [V.str "at", V.str z1, V.str z2]) = H12 at t5 w5 ⊢
    refine ⟨by show 5 ≤ sizeLine; decide, fun A1 hA1 => ?_⟩
    have t6 : Same H12 (upd H12 A1 (.lst [.ref u1, .ref u2, .ref u3, .ref u4, .ref u5])) := same_upd hA1
    have d12 := d7.same (((((t1.trans t2).trans t3).trans t4).trans t5))
    have s7 : Same H7 (upd H12 A1 (.lst [.ref u1, .ref u2, .ref u3, .ref u4, .ref u5])) := (((((t1.trans t2).trans t3).trans t4).trans t5).trans t6)
    refine ⟨d, l, A1, _, rfl, d12.same t6, upd_same, dnew d12 hA1, List.cons_ne_nil _ _, by show 5 ≤ 2000000000000; decide, fun x G hx sxG kG dG => ?_⟩
    have xG := (x7.trans (same_x s7 _)).trans sxG
    have kz := (k7.trans (same_tk s7)).trans kG
    have up1 : ∀ {a : Addr} {ws : List Str}, H12 a = some (.tup (ws.map V.str)) → Rp G (encWs ws) (.ref a) := fun h => rp_ws (kG _ _ (t6 _ _ h))
    have w1 := t5 _ _ (t4 _ _ (t3 _ _ (t2 _ _ w1)))
    have w2 := t5 _ _ (t4 _ _ (t3 _ _ w2))
    have w3 := t5 _ _ (t4 _ _ w3)
    have w4 := t5 _ _ w4
    simp only [List.mem_cons, List.not_mem_nil, or_false] at hx
    rcases hx with e | e | e | e | e
    · subst e; exact q (.pl (.is y1 z1 g)) _ _ ⟨hy1, hz1, hgl⟩ (Nat.zero_le _) (up1 (ws := ["is", y1, z1, g]) w1) xG kz dG
    · subst e; exact q (.pl (.equal y1 z1 y2 z2)) _ _ ⟨hy1, hz1, hy2, hz2⟩ (Nat.zero_le _) (up1 (ws := ["equal", y1, z1, y2, z2]) w2) xG kz dG
    · subst e; exact q (.pl (.empty y1 z1)) _ _ ⟨hy1, hz1⟩ (Nat.zero_le _) (up1 (ws := ["empty", y1, z1]) w3) xG kz dG
    · subst e; exact q (.pl (.inside y1 z1)) _ _ ⟨hy1, hz1⟩ (Nat.zero_le _) (up1 (ws := ["inside", y1, z1]) w4) xG kz dG
    · subst e; exact q (.pl (.at z1 z2)) _ _ ⟨hz1, hz2⟩ (Nat.zero_le _) (up1 (ws := ["at", z1, z2]) w5) xG kz dG
  · refine ⟨_, rfl, _, _, rfl, rfl, _, rfl, ?_⟩
    cases n with
    | zero =>
      refine iteDf (by decide) ?_
      exact tail H ⟨.refl _ _, .refl _, hD⟩
    | succ m =>
      refine iteDt (by omega) ?_
      refine ⟨_, rfl, d, l, 3, rfl, hD, by decide, by decide, fun r H1 hr sx1 k1 d1 => ?_⟩
      refine ⟨rfl, _, rfl, ?_⟩
      by_cases hr0 : (V.int (r : Int)) = V.int 0
      · refine iteDt hr0 ?_
        refine ⟨_, rfl, _, rfl, _, rfl, _, _, rfl, rfl, ?_⟩
        rw [hsp m rfl]
        refine ⟨d, l, b, t, i, k, c, ts, is, ps, ?_, d1, hbt sx1, ht0, hi0, htl, hil, fun x v H2 hx hn hv sx2 k2 d2 => ⟨by show 2 ≤ sizeLine; decide, fun u hu => ?_⟩⟩
        · show [_, _, V.int (((m + 1 : Nat) : Int) - 1)] = _
          rw [show ((m + 1 : Nat) : Int) - 1 = (m : Nat) by omega]
        have s3 : Same H2 (upd H2 u (.tup [.str "not", v])) := same_upd hu
        exact q (.no x) _ _ hx (Nat.succ_le_succ hn) ⟨u, _, rfl, upd_same, .str "not", [v], rfl, rfl, v, [], rfl, hv.same s3, rfl⟩ ((sx1.trans sx2).trans (same_x s3 _)) ((k1.trans k2).trans (same_tk s3)) (d2.same s3)
      · refine iteDf hr0 ?_
        exact tail H1 ⟨sx1, k1, d1⟩
theorem ok_law_drawn_test (T : Top w K mg) : ∀ n : Nat, OK P w K mg base (n + 4) "_law_drawn_test" ["_law_deck_here", "_law_box", "_law_deep"] (sp_law_drawn_test n)
  | 0 => ok_law_drawn_test_step T 0 _ (fun m h => by cases h) (ok_none (d := d_law_drawn_test) (T.has 74 76 rfl rfl rfl rfl rfl) 2 sc_law_drawn_test (fun _ _ _ _ _ _ us hl => match us, hl with | [_, _, _], _ => rfl))
  | n + 1 => ok_law_drawn_test_step T (n + 1) _ (fun m h => by cases h; rfl) (ok_law_drawn_test T n)
end
end NP
/-! NPCmd -/
namespace NP
open PySem PySem.Spec PyProof.Rows L2 TL
structure Cs (H G : Hp) (d l b t i k : Addr) (c : Nat) (ts is ps : List Str) : Prop where
  x : SameX [d, l, b] H G
  tk : TK H G
  dk : Deck G d l
  bx : Box G d l b t i k c ts is ps
theorem sub3 {d l b : Addr} : ∀ z ∈ [d, l], z ∈ [d, l, b] := fun z h => by
  simp only [List.mem_cons, List.not_mem_nil, or_false] at h ⊢
  rcases h with e | e
  · exact .inl e
  · exact .inr (.inl e)
theorem ifs2 {c : TT} {A B : TS} {k : Ends} {σ : L2.St} {H : Hp} (R : Hp → Prop) (hA : ∀ G, R G → A k σ G) (h : (∀ G, R G → A k σ G) → tIfS c A B k σ H) : tIfS c A B k σ H := h hA
section
variable {H G G' : Hp} {d l b t i k : Addr} {c : Nat} {ts is ps : List Str}
theorem Cs.step (h : Cs H G d l b t i k c ts is ps) (sx : SameX [d, l] G G') (tk : TK G G') (dk : Deck G' d l) : Cs H G' d l b t i k c ts is ps := ⟨h.x.trans (sx.mono sub3), h.tk.trans tk, dk, h.bx.keep sx⟩
theorem Cs.same (h : Cs H G d l b t i k c ts is ps) (s : Same G G') : Cs H G' d l b t i k c ts is ps := h.step (same_x s _) (same_tk s) (h.dk.same s)
theorem Cs.step3 {c' : Nat} (h : Cs H G d l b t i k c ts is ps) (sx : SameX [d, l, b] G G') (tk : TK G G') (dk : Deck G' d l) (bx : Box G' d l b t i k c' ts is ps) : Cs H G' d l b t i k c' ts is ps := ⟨h.x.trans sx, h.tk.trans tk, dk, bx⟩
theorem Cs.nin (h : Cs H G d l b t i k c ts is ps) {F : Addr} (hF : G F = none) : F ∉ [d, l] := by
  obtain ⟨_, _, a⟩ := h.dk.ex
  obtain ⟨_, e, _⟩ := h.dk.ls
  have n1 : F ≠ d := fun z => by rw [← z, hF] at a; cases a
  have n2 : F ≠ l := fun z => by rw [← z, hF] at e; cases e
  simp [n1, n2]
end
theorem nes {xs : List Str} (h : xs ≠ []) : xs.map V.str ≠ [] := fun e => h (List.map_eq_nil_iff.mp e)
theorem le2 {xs : List Str} (h : xs.length ≤ 1000) : (xs.map V.str).length ≤ 2000000000000 := by rw [List.length_map]; omega
section
variable {P : Program} {w : World} {K : PySem.W.Frag} {mg : Str → Option Value} {base : Heap}
def sp_law_drawn_command (n : Nat) : Sp := fun vs H Q _ => ∃ (d l b t i k : Addr) (c : Nat) (ts is ps : List Str), vs = [.ref d, .ref b, .int (n : Nat)] ∧ Deck H d l ∧ Box H d l b t i k (c + 1) ts is ps ∧ ts ≠ [] ∧ ts.length ≤ 1000 ∧ is.length ≤ 1000 ∧ ps.length ≤ 1000 ∧
  ∀ (x : Cmd) v H' (c' : Nat), x.ok ts ts.tail is ps → Rp H' x.enc v → SameX [d, l, b] H H' → TK H H' → Deck H' d l → Box H' d l b t i k c' ts is ps → x.cnt + c' = c + 1 → Q v H'
def sp_law_drawn_commands (n : Nat) : Sp := fun vs H Q _ => ∃ (d l b t i k : Addr) (c : Nat) (ts is ps : List Str), vs = [.ref d, .ref b, .int (n : Nat)] ∧ Deck H d l ∧ Box H d l b t i k c ts is ps ∧ ts ≠ [] ∧ ts.length ≤ 1000 ∧ is.length ≤ 1000 ∧ ps.length ≤ 1000 ∧
  ∀ (xs : List Cmd) v H' (c' : Nat), oks ts ts.tail is ps xs → Rp H' (.tuple (encs xs)) v → SameX [d, l, b] H H' → TK H H' → Deck H' d l → Box H' d l b t i k c' ts is ps → cnts xs + c' = c → Q v H'
abbrev nn_law_drawn_command : List Str := ["_law_deck_here", "_law_box", "_law_deep", "_law_way", "_law_some", "_law_p", "_law_commands", "_law_i", "_law_j", "_law_own", "_law_a", "_law_b"]
theorem sc_law_drawn_command : FnScope nn_law_drawn_command ["_law_deck_here", "_law_box", "_law_deep"] d_law_drawn_command.scope := ⟨rfl, rfl, rfl, by decide +kernel, rfl, by decide +kernel, by decide +kernel⟩
abbrev nn_law_drawn_commands : List Str := ["_law_deck_here", "_law_box", "_law_deep", "_law_found", "_law_turn"]
theorem sc_law_drawn_commands : FnScope nn_law_drawn_commands ["_law_deck_here", "_law_box", "_law_deep"] d_law_drawn_commands.scope := ⟨rfl, rfl, rfl, by decide +kernel, rfl, by decide +kernel, by decide +kernel⟩
theorem ok_law_drawn_command_step (T : Top w K mg) (n : Nat) (sp' : Sp) (hsp : ∀ m, n = m + 1 → sp' = sp_law_drawn_commands m) (O : OK P w K mg base (2 * n + 8) "_law_drawn_commands" ["_law_deck_here", "_law_box", "_law_deep"] sp') : OK P w K mg base (2 * n + 9) "_law_drawn_command" ["_law_deck_here", "_law_box", "_law_deep"] (sp_law_drawn_command n) := by
  have big : 10000 ≤ sizeLine := by decide
  refine Has.ok (d := d_law_drawn_command) (T.has 75 77 rfl rfl rfl rfl rfl) sc_law_drawn_command (fun _ _ _ _ _ _ us hl => match us, hl with | [_, _, _], _ => rfl) (by rintro _ _ _ _ ⟨_, _, _, _, _, _, _, _, _, _, rfl, _⟩; rfl) (fun f cdv A outer s H vs Q E hRm h => ?_)
  obtain ⟨d, l, b, t, i, k, c, ts, is, ps, rfl, hD, hB, ht0, htl, hil, hpl, q⟩ := h
  refine ⟨_, (pss_cons (ps_dput (hu_of hRm) (pv 1) pe_str (pe_op op_sub (pe_dget (hu_of hRm) (pv 1) pe_str (fun _ _ => rfl)) pe_int) rfl)
    (pss_cons (ps_set (i := 3) sc_law_drawn_command.nd rfl (.inl rfl) (pe_c (ok_law_draw T) (hRm.mono (by omega)) (by rfl) (pa_cons (pv 0) (pa_cons pe_int pa_nil))))
    (pss_cons (ps_if (PW.pt (pw_or (pt_cmpR (op_eqNilL hRm.units0) (pe_dget (hu_of hRm) (pv 1) pe_str (fun _ _ => rfl)) (pe_lst pa_nil) (nomark _)) (pw_or1 (pt_cmpR op_eq (pv 3) pe_int (nomark _))))) (pss_cons (ps_set (i := 4) sc_law_drawn_command.nd rfl (.inl rfl) (pe_op op_cat (pe_lst (pa_cons (pe_tup (pa_cons pe_str (pa_cons (pe_c (ok_law_pick T) (hRm.mono (by omega)) (by rfl) (pa_cons (pv 0) (pa_cons (pe_lst (pa_cons pe_str (pa_cons pe_str pa_nil))) pa_nil))) pa_nil))) pa_nil)) (pe_op op_rep (pe_lc (own := [("_law_p", 5)]) rfl sc_law_drawn_command.nd (pi_list (pe_dget (hu_of hRm) (pv 1) pe_str (fun _ _ => rfl))) (blkOk_by (N := nn_law_drawn_command) (sc := d_law_drawn_command.scope) (by decide +kernel)) (fun _ _ _ _ _ => (pg_name (i := 5) sc_law_drawn_command.nd rfl (.inl rfl))) (fun _ _ _ _ _ => pts_nil) (fun _ _ _ _ _ => (pe_tup (pa_cons pe_str (pa_cons (pv 5) pa_nil))))) pe_int)))
    (pss_one (ps_ret (pe_c (ok_law_pick T) (hRm.mono (by omega)) (by rfl) (pa_cons (pv 0) (pa_cons (pv 4) pa_nil)))))) pss_nil)
    (pss_cons (ps_if (PW.pt (pw_and (pt_cmpR op_lt (pv 3) pe_int (nomark _)) (pw_and1 (pt_cmpR op_gt (pv 2) pe_int (nomark _))))) (pss_cons (ps_set (i := 6) sc_law_drawn_command.nd rfl (.inl rfl) (pe_c O (hRm.mono (by omega)) (by rfl) (pa_cons (pv 0) (pa_cons (pv 1) (pa_cons (pe_op op_sub (pv 2) pe_int) pa_nil)))))
    (pss_cons (ps_if (pt_cmpR op_eq (pv 3) pe_int (nomark _)) (pss_one (ps_ret (pe_tup (pa_cons pe_str (pa_cons (pe_c (ok_law_drawn_poly T) (hRm.mono (by omega)) (by rfl) (pa_cons (pv 0) (pa_cons pe_int (pa_cons pe_int pa_nil)))) (pa_cons (pv 6) pa_nil)))))) pss_nil)
    (pss_one (ps_ret (pe_tup (pa_cons pe_str (pa_cons (pe_c (ok_law_drawn_test T 3) (hRm.mono (by omega)) (by rfl) (pa_cons (pv 0) (pa_cons (pv 1) (pa_cons pe_int pa_nil)))) (pa_cons (pv 6) (pa_cons (pe_ifExp (pt_cmpR op_eq (pe_c (ok_law_draw T) (hRm.mono (by omega)) (by rfl) (pa_cons (pv 0) (pa_cons pe_int pa_nil))) pe_int (nomark _)) (pe_c O (hRm.mono (by omega)) (by rfl) (pa_cons (pv 0) (pa_cons (pv 1) (pa_cons (pe_op op_sub (pv 2) pe_int) pa_nil)))) (pe_tup pa_nil)) pa_nil))))))))) pss_nil)
    (pss_cons (ps_par3 (i := 7) (j := 8) (l := 9) rfl sc_law_drawn_command.nd rfl rfl rfl (by decide) (by decide) (by decide) rfl rfl rfl (pa_cons (pe_c (ok_law_pick T) (hRm.mono (by omega)) (by rfl) (pa_cons (pv 0) (pa_cons (pe_dget (hu_of hRm) (pv 1) pe_str (fun _ _ => rfl)) pa_nil))) (pa_cons (pe_c (ok_law_pick T) (hRm.mono (by omega)) (by rfl) (pa_cons (pv 0) (pa_cons (pe_dget (hu_of hRm) (pv 1) pe_str (fun _ _ => rfl)) pa_nil))) (pa_cons (pe_slice sl_list (pe_dget (hu_of hRm) (pv 1) pe_str (fun _ _ => rfl)) (po_some pe_int) po_none) pa_nil))) (by rfl))
    (pss_cons (ps_if (PW.pt (pw_and (pt_cmpR op_lt (pv 3) pe_int (nomark _)) (pw_and1 (pt_cmpR (op_neNilL hRm.units0) (pv 9) (pe_lst pa_nil) (nomark _))))) (pss_cons (ps_par (i := 10) (j := 11) rfl sc_law_drawn_command.nd rfl rfl (by decide) rfl rfl (pa_cons (pe_c (ok_law_pick T) (hRm.mono (by omega)) (by rfl) (pa_cons (pv 0) (pa_cons (pv 9) pa_nil))) (pa_cons (pe_c (ok_law_pick T) (hRm.mono (by omega)) (by rfl) (pa_cons (pv 0) (pa_cons (pe_dget (hu_of hRm) (pv 1) pe_str (fun _ _ => rfl)) pa_nil))) pa_nil)) (by rfl))
    (pss_cons (ps_if (pt_cmpR op_eq (pv 3) pe_int (nomark _)) (pss_one (ps_ret (pe_tup (pa_cons pe_str (pa_cons (pe_c (ok_law_pick T) (hRm.mono (by omega)) (by rfl) (pa_cons (pv 0) (pa_cons (pe_lst (pa_cons pe_str (pa_cons pe_str pa_nil))) pa_nil))) (pa_cons (pv 10) (pa_cons (pv 7) (pa_cons (pe_c (ok_law_drawn_letters T) (hRm.mono (by omega)) (by rfl) (pa_cons (pv 0) pa_nil)) pa_nil)))))))) pss_nil)
    (pss_one (ps_ret (pe_c (ok_law_pick T) (hRm.mono (by omega)) (by rfl) (pa_cons (pv 0) (pa_cons (pe_lst (pa_cons (pe_tup (pa_cons pe_str (pa_cons (pv 10) (pa_cons (pv 7) (pa_cons (pe_c (ok_law_pick T) (hRm.mono (by omega)) (by rfl) (pa_cons (pv 0) (pa_cons (pe_lst (pa_cons pe_str (pa_cons pe_str (pa_cons pe_str (pa_cons pe_str pa_nil))))) pa_nil))) pa_nil))))) (pa_cons (pe_tup (pa_cons pe_str (pa_cons (pv 10) (pa_cons (pv 7) (pa_cons (pv 11) (pa_cons (pv 8) pa_nil)))))) (pa_cons (pe_tup (pa_cons pe_str (pa_cons (pv 10) (pa_cons (pv 7) pa_nil)))) pa_nil)))) pa_nil))))))) pss_nil)
    (pss_one (ps_ret (pe_c (ok_law_pick T) (hRm.mono (by omega)) (by rfl) (pa_cons (pv 0) (pa_cons (pe_lst (pa_cons (pe_tup (pa_cons pe_str (pa_cons (pv 7) pa_nil))) (pa_cons (pe_tup (pa_cons pe_str (pa_cons (pv 7) pa_nil))) (pa_cons (pe_tup (pa_cons pe_str (pa_cons (pv 7) pa_nil))) (pa_cons (pe_tup (pa_cons pe_str (pa_cons (pv 7) (pa_cons (pv 8) pa_nil)))) pa_nil))))) pa_nil))))))))))), ?_⟩
  have hgn := hB.gn
  have hbd : b ≠ d ∧ b ≠ l := by simpa using hB.nb
  refine ⟨_, rfl, b, _, rfl, hgn, _, _, rfl, rfl, _, rfl, b, _, rfl, DPut.k (k := Sum.inr "left") hB.ex (by show 4 < sizeLine; decide), ?_⟩
  rw [bx_putn, show ((c + 1 : Nat) : Int) - 1 = (c : Nat) by omega]
  have c1 : Cs H (upd H b (.dK (bx t i k c))) d l b t i k c ts is ps := ⟨samex_upd (by simp), tk_upd (fun q z => by rw [hB.ex] at z; cases z), hD.keep (upd_ne (Ne.symm hbd.1)) (upd_ne (Ne.symm hbd.2)), hB.put c⟩
  generalize upd H b (.dK (bx t i k c)) = H1 at c1 ⊢
  refine ⟨_, rfl, d, l, 12, rfl, c1.dk, by decide, by decide, fun wy H2 hwy sx2 tk2 dk2 => ?_⟩
  have c2 := c1.step sx2 tk2 dk2
  dsimp only
  refine seq2 (fun G => Cs H G d l b t i k c ts is ps ∧ is ≠ []) (fun G1 hG1 => ?_) (fun tail => ?_)
  · obtain ⟨c3, hi0⟩ := hG1
    refine seq2 (fun G => Cs H G d l b t i k c ts is ps) (fun G1 c3 => ?_) (fun tail => ?_)
    · refine ⟨_, rfl, _, rfl, b, _, rfl, c3.bx.gi, d, l, i, _, rfl, c3.dk, c3.bx.hi, nl2 c3.bx.ni, nes hi0, le2 hil, fun i1 G2 hi1 sx4 tk4 d4 => ?_⟩
      have c4 := c3.step sx4 tk4 d4
      obtain ⟨z1, hz1, rfl⟩ := List.mem_map.mp hi1
      refine ⟨_, rfl, _, rfl, b, _, rfl, c4.bx.gi, d, l, i, _, rfl, c4.dk, c4.bx.hi, nl2 c4.bx.ni, nes hi0, le2 hil, fun j1 G3 hj1 sx5 tk5 d5 => ?_⟩
      have c5 := c4.step sx5 tk5 d5
      obtain ⟨z2, hz2, rfl⟩ := List.mem_map.mp hj1
      refine ⟨_, rfl, b, _, rfl, c5.bx.gt, 1, rfl, t, _, rfl, .of c5.bx.ht, fun O1 hO1 => ?_⟩
      have hcut : cutV (ts.map V.str) (some 1) none = ts.tail.map V.str := by rw [cutV_one, ← List.map_drop, List.drop_one]
      rw [hcut]
      have tO : Same G3 (upd G3 O1 (.lst (ts.tail.map V.str))) := same_upd hO1
      have hO : (upd G3 O1 (.lst (ts.tail.map V.str))) O1 = some (.lst (ts.tail.map V.str)) := upd_same
      have nO := c5.nin hO1
      generalize upd G3 O1 (.lst (ts.tail.map V.str)) = G4 at tO hO ⊢
      have c6 := c5.same tO
      refine ⟨_, _, _, rfl, ?_⟩
      have htl1 : ts.tail.length ≤ 1000 := by rw [List.length_tail]; omega
      dsimp only
      refine seq2 (fun G => Cs H G d l b t i k c ts is ps) (fun G8 c8 => ?_) (fun tail => ?_)
      · skip
        refine ⟨_, rfl, _, rfl, by show 2 ≤ sizeLine; decide, fun u1 hu1 => ?_⟩
        have t1 : Same G8 (upd G8 u1 (.tup [V.str "zero", V.str z1])) := same_upd hu1
        have w1 : (upd G8 u1 (.tup [V.str "zero", V.str z1])) u1 = some (.tup [V.str "zero", V.str z1]) := upd_same
        generalize upd G8 u1 (.tup [V.str "zero", V.str z1]) = G8_1 at t1 w1 ⊢
        refine ⟨_, rfl, by show 2 ≤ sizeLine; decide, fun u2 hu2 => ?_⟩
        have t2 : Same G8_1 (upd G8_1 u2 (.tup [V.str "up", V.str z1])) := same_upd hu2
        have w2 : (upd G8_1 u2 (.tup [V.str "up", V.str z1])) u2 = some (.tup [V.str "up", V.str z1]) := upd_same
        generalize upd G8_1 u2 (.tup [V.str "up", V.str z1]) = G8_2 at t2 w2 ⊢
        refine ⟨_, rfl, by show 2 ≤ sizeLine; decide, fun u3 hu3 => ?_⟩
        have t3 : Same G8_2 (upd G8_2 u3 (.tup [V.str "down", V.str z1])) := same_upd hu3
        have w3 : (upd G8_2 u3 (.tup [V.str "down", V.str z1])) u3 = some (.tup [V.str "down", V.str z1]) := upd_same
        generalize upd G8_2 u3 (.tup [V.str "down", V.str z1]) = G8_3 at t3 w3 ⊢
        refine ⟨_, rfl, _, rfl, by show 3 ≤ sizeLine; decide, fun u4 hu4 => ?_⟩
        have t4 : Same G8_3 (upd G8_3 u4 (.tup [V.str "same", V.str z1, V.str z2])) := same_upd hu4
        have w4 : (upd G8_3 u4 (.tup [V.str "same", V.str z1, V.str z2])) u4 = some (.tup [V.str "same", V.str z1, V.str z2]) := upd_same
        generalize upd G8_3 u4 (.tup [V.str "same", V.str z1, V.str z2]) = G8_4 at t4 w4 ⊢
        refine ⟨by show 4 ≤ sizeLine; decide, fun A1 hA1 => ?_⟩
        have tA : Same G8_4 (upd G8_4 A1 (.lst [.ref u1, .ref u2, .ref u3, .ref u4])) := same_upd hA1
        have cA := c8.same (((t1.trans t2).trans t3).trans t4)
        refine ⟨d, l, A1, _, rfl, cA.dk.same tA, upd_same, dnew cA.dk hA1, List.cons_ne_nil _ _, by show 4 ≤ 2000000000000; decide, fun x GG hx sxG kG dG => ?_⟩
        have cZ := (cA.same tA).step sxG kG dG
        have up1 : ∀ {a : Addr} {ws : List Str}, G8_4 a = some (.tup (ws.map V.str)) → Rp GG (encWs ws) (.ref a) := fun h => rp_ws (kG _ _ (tA _ _ h))
        have w1 := (t4 _ _ (t3 _ _ (t2 _ _ w1)))
        have w2 := (t4 _ _ (t3 _ _ w2))
        have w3 := (t4 _ _ w3)
        simp only [List.mem_cons, List.not_mem_nil, or_false] at hx
        rcases hx with e | e | e | e
        · subst e; exact q (.si (.zero z1)) _ _ c hz1 (up1 (ws := ["zero", z1]) w1) cZ.x cZ.tk cZ.dk cZ.bx (by show 1 + c = c + 1; omega)
        · subst e; exact q (.si (.up z1)) _ _ c hz1 (up1 (ws := ["up", z1]) w2) cZ.x cZ.tk cZ.dk cZ.bx (by show 1 + c = c + 1; omega)
        · subst e; exact q (.si (.down z1)) _ _ c hz1 (up1 (ws := ["down", z1]) w3) cZ.x cZ.tk cZ.dk cZ.bx (by show 1 + c = c + 1; omega)
        · subst e; exact q (.si (.same z1 z2)) _ _ c ⟨hz1, hz2⟩ (up1 (ws := ["same", z1, z2]) w4) cZ.x cZ.tk cZ.dk cZ.bx (by show 1 + c = c + 1; omega)
      · refine ⟨_, rfl, _, _, rfl, rfl, _, rfl, ?_⟩
        by_cases hw8 : (wy : Int) < 8
        · refine iteDt hw8 ?_
          refine ⟨_, rfl, by show 0 ≤ sizeLine; decide, fun N1 hN1 => ?_⟩
          have tN : Same G4 (upd G4 N1 (.lst [])) := same_upd hN1
          refine ⟨O1, N1, _, rfl, rfl, .of (tN _ _ hO), .of upd_same, _, rfl, ?_⟩
          have hO7 := tN _ _ hO
          have c7 := c6.same tN
          generalize upd G4 N1 (.lst []) = G7 at tN hO7 c7 ⊢
          by_cases ho0 : ts.tail = []
          · rw [ho0]
            refine iteF ?_
            exact tail _ c7
          · have hne : (ts.tail.map V.str).isEmpty = false := by
              cases hts : ts.tail with
              | nil => exact absurd hts ho0
              | cons _ _ => rfl
            rw [hne]
            refine iteT ?_
            refine ⟨_, rfl, _, rfl, d, l, O1, _, rfl, c7.dk, hO7, nl2 nO, nes ho0, le2 htl1, fun a1 G9 hv1 sx9 tk9 d9 => ?_⟩
            have c9 := c7.step sx9 tk9 d9
            obtain ⟨a1, ha1, rfl⟩ := List.mem_map.mp hv1
            refine ⟨_, rfl, _, rfl, b, _, rfl, c9.bx.gt, d, l, t, _, rfl, c9.dk, c9.bx.ht, nl2 c9.bx.nt, nes ht0, le2 htl, fun a2 G10 hv2 sx10 tk10 d10 => ?_⟩
            have c10 := c9.step sx10 tk10 d10
            obtain ⟨a2, ha2, rfl⟩ := List.mem_map.mp hv2
            refine ⟨_, _, rfl, ?_⟩
            refine ⟨_, rfl, rfl, _, rfl, ?_⟩
            by_cases hw7 : (V.int (wy : Int)) = V.int 7
            · refine iteDt hw7 ?_
              refine ⟨_, rfl, by show 2 ≤ sizeLine; decide, fun L1 hL1 => ?_⟩
              have tL : Same G10 (upd G10 L1 (.lst [V.str "one", .str "two"])) := same_upd hL1
              refine ⟨d, l, L1, _, rfl, c10.dk.same tL, upd_same, nl2 (c10.nin hL1), List.cons_ne_nil _ _, by show 2 ≤ 2000000000000; decide, fun z G11 hz sx11 tk11 d11 => ?_⟩
              have c11 := (c10.same tL).step sx11 tk11 d11
              obtain ⟨g, rfl, hg⟩ : ∃ g, z = .str g ∧ Pla g := by
                simp only [List.mem_cons, List.not_mem_nil, or_false] at hz
                rcases hz with e | e
                · exact ⟨_, e, .inl rfl⟩
                · exact ⟨_, e, .inr rfl⟩
              refine ⟨_, rfl, _, rfl, _, rfl, d, l, rfl, c11.dk, fun y G12 hy sx12 tk12 d12 => ?_⟩
              have c12 := c11.step sx12 tk12 d12
              refine ⟨by show 5 ≤ sizeLine; decide, fun u1 hu1 => ?_⟩
              have t1 : Same G12 (upd G12 u1 (.tup [V.str "choose", .str g, .str a1, .str z1, .str y])) := same_upd hu1
              have w1 : (upd G12 u1 (.tup [V.str "choose", .str g, .str a1, .str z1, .str y])) u1 = some (.tup [V.str "choose", .str g, .str a1, .str z1, .str y]) := upd_same
              generalize upd G12 u1 (.tup [V.str "choose", .str g, .str a1, .str z1, .str y]) = G13 at t1 w1 ⊢
              have cZ := c12.same t1
              exact q (.si (.choose g a1 z1 y)) _ _ c ⟨hg, ha1, hz1, hy⟩ (rp_ws (ws := ["choose", g, a1, z1, y]) w1) cZ.x cZ.tk cZ.dk cZ.bx (by show 1 + c = c + 1; omega)
            · refine iteDf hw7 ?_
              refine ⟨_, rfl, _, rfl, _, rfl, _, rfl, by show 4 ≤ sizeLine; decide, fun L1 hL1 => ?_⟩
              have tL : Same G10 (upd G10 L1 (.lst ((["a", "b", "n", "z"] : List Str).map V.str))) := same_upd hL1
              refine ⟨d, l, L1, (["a", "b", "n", "z"] : List Str).map V.str, rfl, c10.dk.same tL, upd_same, nl2 (c10.nin hL1), List.cons_ne_nil _ _, by show 4 ≤ 2000000000000; decide, fun z G12 hz sx12 tk12 d12 => ?_⟩
              have c12 := (c10.same tL).step sx12 tk12 d12
              obtain ⟨g, hg, rfl⟩ := List.mem_map.mp hz
              have hgl : Lt g := (by decide +kernel : ∀ z ∈ (["a", "b", "n", "z"] : List Str), z ∈ letters4) g hg
              refine ⟨by show 4 ≤ sizeLine; decide, fun u1 hu1 => ?_⟩
              have t1 : Same G12 (upd G12 u1 (.tup [V.str "set", V.str a1, V.str z1, V.str g])) := same_upd hu1
              have w1 : (upd G12 u1 (.tup [V.str "set", V.str a1, V.str z1, V.str g])) u1 = some (.tup [V.str "set", V.str a1, V.str z1, V.str g]) := upd_same
              generalize upd G12 u1 (.tup [V.str "set", V.str a1, V.str z1, V.str g]) = G12_1 at t1 w1 ⊢
              refine ⟨_, rfl, _, rfl, _, rfl, _, rfl, by show 5 ≤ sizeLine; decide, fun u2 hu2 => ?_⟩
              have t2 : Same G12_1 (upd G12_1 u2 (.tup [V.str "copy", V.str a1, V.str z1, V.str a2, V.str z2])) := same_upd hu2
              have w2 : (upd G12_1 u2 (.tup [V.str "copy", V.str a1, V.str z1, V.str a2, V.str z2])) u2 = some (.tup [V.str "copy", V.str a1, V.str z1, V.str a2, V.str z2]) := upd_same
              generalize upd G12_1 u2 (.tup [V.str "copy", V.str a1, V.str z1, V.str a2, V.str z2]) = G12_2 at t2 w2 ⊢
              refine ⟨_, rfl, _, rfl, by show 3 ≤ sizeLine; decide, fun u3 hu3 => ?_⟩
              have t3 : Same G12_2 (upd G12_2 u3 (.tup [V.str "clear", V.str a1, V.str z1])) := same_upd hu3
              have w3 : (upd G12_2 u3 (.tup [V.str "clear", V.str a1, V.str z1])) u3 = some (.tup [V.str "clear", V.str a1, V.str z1]) := upd_same
              generalize upd G12_2 u3 (.tup [V.str "clear", V.str a1, V.str z1]) = G12_3 at t3 w3 ⊢
              refine ⟨by show 3 ≤ sizeLine; decide, fun A1 hA1 => ?_⟩
              have tA : Same G12_3 (upd G12_3 A1 (.lst [.ref u1, .ref u2, .ref u3])) := same_upd hA1
              have cA := c12.same ((t1.trans t2).trans t3)
              refine ⟨d, l, A1, _, rfl, cA.dk.same tA, upd_same, dnew cA.dk hA1, List.cons_ne_nil _ _, by show 3 ≤ 2000000000000; decide, fun x GG hx sxG kG dG => ?_⟩
              have cZ := (cA.same tA).step sxG kG dG
              have up1 : ∀ {a : Addr} {ws : List Str}, G12_3 a = some (.tup (ws.map V.str)) → Rp GG (encWs ws) (.ref a) := fun h => rp_ws (kG _ _ (tA _ _ h))
              have w1 := (t3 _ _ (t2 _ _ w1))
              have w2 := (t3 _ _ w2)
              simp only [List.mem_cons, List.not_mem_nil, or_false] at hx
              rcases hx with e | e | e
              · subst e; exact q (.si (.set a1 z1 g)) _ _ c ⟨ha1, hz1, hgl⟩ (up1 (ws := ["set", a1, z1, g]) w1) cZ.x cZ.tk cZ.dk cZ.bx (by show 1 + c = c + 1; omega)
              · subst e; exact q (.si (.copy a1 z1 a2 z2)) _ _ c ⟨ha1, hz1, ha2, hz2⟩ (up1 (ws := ["copy", a1, z1, a2, z2]) w2) cZ.x cZ.tk cZ.dk cZ.bx (by show 1 + c = c + 1; omega)
              · subst e; exact q (.si (.clear a1 z1)) _ _ c ⟨ha1, hz1⟩ (up1 (ws := ["clear", a1, z1]) w3) cZ.x cZ.tk cZ.dk cZ.bx (by show 1 + c = c + 1; omega)
        · refine iteDf hw8 ?_
          exact tail _ c6
    · refine ⟨_, rfl, _, _, rfl, rfl, _, rfl, ?_⟩
      by_cases hw4 : ¬ ((wy : Int) < 4)
      · refine iteDf hw4 ?_
        exact tail _ c3
      have hw4 := Decidable.not_not.mp hw4
      refine iteDt hw4 ?_
      refine ⟨_, rfl, _, _, rfl, rfl, _, rfl, ?_⟩
      cases n with
      | zero =>
        refine iteDf (by decide) ?_
        exact tail _ c3
      | succ m =>
        refine iteDt (by omega) ?_
        have eqn : ∀ d b : V, [d, b, V.int (((m + 1 : Nat) : Int) - 1)] = [d, b, V.int (m : Nat)] := fun d b => by rw [show ((m + 1 : Nat) : Int) - 1 = (m : Nat) by omega]
        refine ⟨_, rfl, _, rfl, _, rfl, _, _, rfl, rfl, ?_⟩
        rw [hsp m rfl]
        refine ⟨d, l, b, t, i, k, c, ts, is, ps, eqn _ _, c3.dk, c3.bx, ht0, htl, hil, hpl, fun xs v G4 n1 hxs hv sx4 tk4 d4 bx4 hcn1 => ?_⟩
        have c4 := c3.step3 sx4 tk4 d4 bx4
        refine ⟨_, rfl, rfl, _, rfl, ?_⟩
        by_cases hw1 : (V.int (wy : Int)) = V.int 1
        · refine iteDt hw1 ?_
          refine ⟨_, rfl, d, l, 2, 3, rfl, c4.dk, by decide, by decide, fun p v2 G5 hp hv2 sx5 tk5 d5 => ?_⟩
          have c5 := c4.step sx5 tk5 d5
          refine ⟨_, rfl, by show 3 ≤ sizeLine; decide, fun u hu => ?_⟩
          have su : Same G5 (upd G5 u (.tup [V.str "repeat", v2, v])) := same_upd hu
          have c6 := c5.same su
          exact q (.re p xs) _ _ n1 ⟨hp, hxs⟩ ⟨u, _, rfl, upd_same, .str "repeat", [v2, v], rfl, rfl, v2, [v], rfl, hv2.same su, v, [], rfl, (hv.tk tk5).same su, rfl⟩ c6.x c6.tk c6.dk c6.bx (by show 1 + cnts xs + n1 = c + 1; omega)
        · refine iteDf hw1 ?_
          refine ⟨_, rfl, _, rfl, d, l, b, t, i, k, n1, ts, is, ps, rfl, c4.dk, c4.bx, ht0, hi0, htl, hil, fun x v2 G5 hx hxn hv2 sx5 tk5 d5 => ?_⟩
          have c5 := c4.step sx5 tk5 d5
          refine ⟨_, rfl, _, rfl, d, l, 2, rfl, c5.dk, by decide, by decide, fun r2 G6 hr2 sx6 tk6 d6 => ?_⟩
          have c6 := c5.step sx6 tk6 d6
          refine ⟨rfl, _, rfl, ?_⟩
          by_cases hr0 : (V.int (r2 : Int)) = V.int 0
          · refine iteDt hr0 ?_
            refine ⟨_, rfl, _, rfl, _, rfl, _, _, rfl, rfl, ?_⟩
            refine ⟨d, l, b, t, i, k, n1, ts, is, ps, eqn _ _, c6.dk, c6.bx, ht0, htl, hil, hpl, fun os v3 G7 n2 hos hv3 sx7 tk7 d7 bx7 hcn2 => ?_⟩
            have c7 := c6.step3 sx7 tk7 d7 bx7
            refine ⟨by show 4 ≤ sizeLine; decide, fun u hu => ?_⟩
            have su : Same G7 (upd G7 u (.tup [V.str "if", v2, v, v3])) := same_upd hu
            have c8 := c7.same su
            exact q (.if_ x xs os) _ _ n2 ⟨⟨hx, hxn⟩, hxs, hos⟩ ⟨u, _, rfl, upd_same, .str "if", [v2, v, v3], rfl, rfl, v2, [v, v3], rfl, ((hv2.tk tk6).tk tk7).same su, v, [v3], rfl, (((hv.tk tk5).tk tk6).tk tk7).same su, v3, [], rfl, hv3.same su, rfl⟩ c8.x c8.tk c8.dk c8.bx (by show 1 + cnts xs + cnts os + n2 = c + 1; omega)
          · refine iteDf hr0 ?_
            refine ⟨by show 0 ≤ sizeLine; decide, fun e he => ⟨by show 4 ≤ sizeLine; decide, fun u hu => ?_⟩⟩
            have se : Same G6 (upd G6 e (.tup [])) := same_upd he
            have he2 : (upd G6 e (.tup [])) e = some (.tup []) := upd_same
            generalize upd G6 e (.tup []) = G7 at se he2 hu ⊢
            have c7 := c6.same se
            have su : Same G7 (upd G7 u (.tup [V.str "if", v2, v, .ref e])) := same_upd hu
            have c8 := c7.same su
            exact q (.if_ x xs []) _ _ n1 ⟨⟨hx, hxn⟩, hxs, trivial⟩ ⟨u, _, rfl, upd_same, .str "if", [v2, v, .ref e], rfl, rfl, v2, [v, .ref e], rfl, ((hv2.tk tk6).same se).same su, v, [.ref e], rfl, (((hv.tk tk5).tk tk6).same se).same su, .ref e, [], rfl, ⟨e, [], rfl, su _ _ he2, rfl⟩, rfl⟩ c8.x c8.tk c8.dk c8.bx (by show 1 + cnts xs + 0 + n1 = c + 1; omega)
  · refine ifs2 (fun G => Cs H G d l b t i k c ts is ps) (fun G1 c3 => ?_) (fun wins => ?_)
    · refine ⟨_, rfl, by show 2 ≤ sizeLine; decide, fun L1 hL1 => ?_⟩
      have tL : Same G1 (upd G1 L1 (.lst [V.str "one", .str "two"])) := same_upd hL1
      refine ⟨d, l, L1, _, rfl, c3.dk.same tL, upd_same, nl2 (c3.nin hL1), List.cons_ne_nil _ _, by show 2 ≤ 2000000000000; decide, fun z G2 hz sx4 tk4 d4 => ?_⟩
      have c4 := (c3.same tL).step sx4 tk4 d4
      obtain ⟨g, rfl, hg⟩ : ∃ g, z = .str g ∧ Pla g := by
        simp only [List.mem_cons, List.not_mem_nil, or_false] at hz
        rcases hz with e | e
        · exact ⟨_, e, .inl rfl⟩
        · exact ⟨_, e, .inr rfl⟩
      refine ⟨by show 2 ≤ sizeLine; decide, fun u hu => ⟨by show 1 ≤ sizeLine; decide, fun W hW => ?_⟩⟩
      have tu : Same G2 (upd G2 u (.tup [V.str "wins", .str g])) := same_upd hu
      have hu2 : (upd G2 u (.tup [V.str "wins", .str g])) u = some (.tup [V.str "wins", .str g]) := upd_same
      generalize upd G2 u (.tup [V.str "wins", .str g]) = G3 at tu hu2 hW ⊢
      have tW : Same G3 (upd G3 W (.lst [.ref u])) := same_upd hW
      have hW2 : (upd G3 W (.lst [.ref u])) W = some (.lst [.ref u]) := upd_same
      generalize upd G3 W (.lst [.ref u]) = G4 at tW hW2 ⊢
      have c5 := (c4.same tu).same tW
      have hu4 := tW _ _ hu2
      refine ⟨_, rfl, b, _, rfl, c5.bx.gk, k, rfl, ⟨_, .of c5.bx.hk⟩, fun D hD0 => ?_⟩
      refine lc_map walk_list hD0 (by rw [List.length_map]; omega) (fun H' s1 => .of (s1 _ _ c5.bx.hk)) (fun j y G => ∃ p u, ps[j]? = some p ∧ y = .ref u ∧ G u = some (.tup [V.str "do", .str p])) (fun j y G G' ⟨p, u, z1, z2, z3⟩ kk => ⟨p, u, z1, z2, kk _ _ z3⟩) (fun j x G5 G6 hj s5 hy C kk => ?_) fun ys G5 hn s5 hD5 hr5 => ?_
      · obtain ⟨rfl, hx⟩ := hy
        rw [List.getElem?_map] at hx
        obtain ⟨p, hp, rfl⟩ := Option.map_eq_some_iff.mp hx
        exact ⟨rfl, _, rfl, by show 2 ≤ sizeLine; decide, fun u hu => kk _ _ (same_upd hu) ⟨p, u, hp, rfl, upd_same⟩⟩
      · rw [List.length_map] at hn
        have c6 := c5.same s5
        refine ⟨D, 2, ys, rfl, rfl, hD5, by decide, by decide, by show ys.length * 2 ≤ sizeLine; omega, fun Z hZ => ?_⟩
        have tZ : Same G5 (upd G5 Z (.lst (List.replicate (Int.toNat 2) ys).flatten)) := same_upd hZ
        have hZ2 : (upd G5 Z (.lst (List.replicate (Int.toNat 2) ys).flatten)) Z = some (.lst (ys ++ ys)) := by
          rw [upd_same]
          show some (HO.lst (List.replicate 2 ys).flatten) = _
          simp [List.replicate]
        generalize upd G5 Z (.lst (List.replicate (Int.toNat 2) ys).flatten) = G6 at tZ hZ2 ⊢
        have c7 := c6.same tZ
        refine ⟨W, Z, _, _, rfl, rfl, tZ _ _ (s5 _ _ hW2), hZ2, by simp only [List.length_append, List.length_cons, List.length_nil]; omega, fun M hM => ?_⟩
        have tM : Same G6 (upd G6 M (.lst ([.ref u] ++ (ys ++ ys)))) := same_upd hM
        have c8 := c7.same tM
        refine ⟨_, rfl, _, rfl, d, l, M, _, rfl, c8.dk, upd_same, nl2 (c7.nin hM), by simp, by simp only [List.length_append, List.length_cons, List.length_nil]; omega, fun x G8 hx sx9 tk9 d9 => ?_⟩
        have cZ := c8.step sx9 tk9 d9
        have up2 : ∀ {a : Addr} {ws : List Str}, G5 a = some (.tup (ws.map V.str)) → Rp G8 (encWs ws) (.ref a) := fun h => rp_ws (tk9 _ _ (tM _ _ (tZ _ _ h)))
        have hx2 : x = .ref u ∨ x ∈ ys := by
          rcases List.mem_append.mp hx with e | e
          · exact .inl (List.mem_singleton.mp e)
          · rcases List.mem_append.mp e with e | e
            · exact .inr e
            · exact .inr e
        rcases hx2 with e | e
        · subst e
          exact q (.si (.wins g)) _ _ c hg (up2 (ws := ["wins", g]) (s5 _ _ hu4)) cZ.x cZ.tk cZ.dk cZ.bx (by show 1 + c = c + 1; omega)
        · obtain ⟨j, hj, e2⟩ := List.getElem_of_mem e
          obtain ⟨p, u2, hp, rfl, hu3⟩ := hr5 j x (by rw [List.getElem?_eq_getElem hj, e2])
          exact q (.si (.go p)) _ _ c (List.mem_of_getElem? hp) (up2 (ws := ["do", p]) hu3) cZ.x cZ.tk cZ.dk cZ.bx (by show 1 + c = c + 1; omega)
    · refine ⟨_, rfl, b, _, rfl, c2.bx.gi, by show 0 ≤ sizeLine; decide, fun N1 hN1 => ?_⟩
      have tN : Same H2 (upd H2 N1 (.lst [])) := same_upd hN1
      refine ⟨i, N1, _, rfl, rfl, .of (tN _ _ c2.bx.hi), .of upd_same, _, rfl, ?_⟩
      have c3 := c2.same tN
      generalize upd H2 N1 (.lst []) = H3 at tN c3 ⊢
      by_cases hi0 : is = []
      · rw [hi0]
        refine iteT ?_
        exact wins _ c3
      · have hne : (is.map V.str).isEmpty = false := by
          cases his : is with
          | nil => exact absurd his hi0
          | cons _ _ => rfl
        rw [hne]
        refine iteF ?_
        refine ⟨_, rfl, rfl, _, rfl, ?_⟩
        by_cases hw0 : (V.int (wy : Int)) = V.int 0
        · refine iteDt hw0 ?_
          exact wins _ c3
        · refine iteDf hw0 ?_
          exact tail _ ⟨c3, hi0⟩
theorem ok_law_drawn_commands_step (T : Top w K mg) (n : Nat) (O : OK P w K mg base (2 * n + 9) "_law_drawn_command" ["_law_deck_here", "_law_box", "_law_deep"] (sp_law_drawn_command n)) : OK P w K mg base (2 * n + 10) "_law_drawn_commands" ["_law_deck_here", "_law_box", "_law_deep"] (sp_law_drawn_commands n) := by
  have big : 10000 ≤ sizeLine := by decide
  refine Has.ok (d := d_law_drawn_commands) (T.has 76 78 rfl rfl rfl rfl rfl) sc_law_drawn_commands (fun _ _ _ _ _ _ us hl => match us, hl with | [_, _, _], _ => rfl) (by rintro _ _ _ _ ⟨_, _, _, _, _, _, _, _, _, _, rfl, _⟩; rfl) (fun f cdv A outer s H vs Q E hRm h => ?_)
  obtain ⟨d, l, b, t, i, k, c, ts, is, ps, rfl, hD, hB, ht0, htl, hil, hpl, q⟩ := h
  refine ⟨_, (pss_cons (ps_set (i := 3) sc_law_drawn_commands.nd rfl (.inl rfl) (pe_lst pa_nil))
    (pss_cons (ps_for PassesOwn.never rfl (pi_range1 (by rfl) (T.free 99) (pa_cons (pe_c (ok_law_pick T) (hRm.mono (by omega)) (by rfl) (pa_cons (pv 0) (pa_cons (pe_lst (pa_cons pe_int (pa_cons pe_int (pa_cons pe_int (pa_cons pe_int (pa_cons pe_int (pa_cons pe_int pa_nil))))))) pa_nil))) pa_nil)) (pg_name (i := 4) sc_law_drawn_commands.nd rfl (.inl rfl)) (pss_one (ps_if (pt_cmpR op_gt (pe_dget (hu_of hRm) (pv 1) pe_str (fun _ _ => rfl)) pe_int (nomark _)) (pss_one (ps_expr (pe_bm PySem.F.plainAttrs_list PySem.F.slot_list_append PySem.F.type_list_append mt_append (pv 3) (pa_cons (pe_c O (hRm.mono (by omega)) (by rfl) (pa_cons (pv 0) (pa_cons (pv 1) (pa_cons (pv 2) pa_nil)))) pa_nil)))) pss_nil)))
    (pss_one (ps_ret (pe_callTy tupL (by rfl) (T.free 97) (by decide +kernel) (pa_cons (pv 3) pa_nil)))))), ?_⟩
  refine ⟨by show 0 ≤ sizeLine; decide, fun F hF => ?_⟩
  have s1 : Same H (upd H F (.lst [])) := same_upd hF
  have hF1 : (upd H F (.lst [])) F = some (.lst []) := upd_same
  have c0 : Cs H H d l b t i k c ts is ps := ⟨.refl _ _, .refl _, hD, hB⟩
  have c1 := c0.same s1
  have nF2 := c0.nin hF
  have nFb : F ≠ b := fun e => by rw [e, hB.ex] at hF; cases hF
  have nF : F ∉ [d, l, b] := by
    simp only [List.mem_cons, List.not_mem_nil, or_false] at nF2 ⊢
    intro h
    rcases h with e | e | e
    · exact nF2 (.inl e)
    · exact nF2 (.inr e)
    · exact nFb e
  generalize upd H F (.lst []) = H1 at s1 hF1 c1 ⊢
  refine ⟨_, rfl, by show 6 ≤ sizeLine; decide, fun A1 hA1 => ?_⟩
  have tA : Same H1 (upd H1 A1 (.lst [V.int 2, V.int 1, V.int 3, V.int 0, V.int 2, V.int 4])) := same_upd hA1
  refine ⟨d, l, A1, _, rfl, c1.dk.same tA, upd_same, nl2 (c1.nin hA1), List.cons_ne_nil _ _, by show 6 ≤ 2000000000000; decide, fun z H2 hz sx2 tk2 d2 => ?_⟩
  obtain ⟨r, rfl, hr⟩ : ∃ r : Nat, z = .int (r : Int) ∧ r ≤ 4 := by
    simp only [List.mem_cons, List.not_mem_nil, or_false] at hz
    rcases hz with e | e | e | e | e | e
    · exact ⟨2, e, by decide⟩
    · exact ⟨1, e, by decide⟩
    · exact ⟨3, e, by decide⟩
    · exact ⟨0, e, by decide⟩
    · exact ⟨2, e, by decide⟩
    · exact ⟨4, e, by decide⟩
  have c2 := (c1.same tA).step sx2 tk2 d2
  have hF2 := sx2 _ _ (tA _ _ hF1) nF2
  refine ⟨(r : Int), rfl, by omega, by omega, ?_⟩
  rw [Int.toNat_natCast]
  refine for_it (walk_range (lo := 0) (n := r)) (fun j σ H' => ∃ (o4 : Option V) (xs : List Cmd) (us : List V) (n1 : Nat), σ = [some (.ref d), some (.ref b), some (.int (n : Nat)), some (.ref F), o4] ∧ Cs H H' d l b t i k n1 ts is ps ∧ H' F = some (.lst us) ∧ RpL H' (encs xs) us ∧ oks ts ts.tail is ps xs ∧ cnts xs + n1 = c ∧ us.length ≤ j) ⟨none, [], [], c, rfl, c2, hF2, rfl, trivial, by show 0 + c = c; omega, Nat.zero_le _⟩ (fun _ _ _ _ _ => trivial) (fun j x σ G1 G2 hj hp hy => ?_) (fun σ G1 hp => ?_)
  · obtain ⟨o4, xs, us, n1, rfl, c3, hF3, hr3, ho3, hc3, hl3⟩ := hp
    obtain ⟨rfl, rfl⟩ := hy
    refine ⟨_, rfl, b, _, rfl, c3.bx.gn, _, _, rfl, rfl, _, rfl, ?_⟩
    by_cases hn0 : (0 : Int) < (n1 : Int)
    · refine iteDt hn0 ?_
      obtain ⟨n2, rfl⟩ : ∃ n2, n1 = n2 + 1 := ⟨n1 - 1, by omega⟩
      refine ⟨_, rfl, .inl ⟨rfl, _, .of hF3⟩, _, rfl, _, rfl, _, rfl, d, l, b, t, i, k, n2, ts, is, ps, rfl, c3.dk, c3.bx, ht0, htl, hil, hpl, fun y v G3 n3 hy hv sx4 tk4 d4 bx4 hc4 => ?_⟩
      have c4 := c3.step3 sx4 tk4 d4 bx4
      have hF4 := sx4 _ _ hF3 nF
      refine ⟨F, _, _, rfl, rfl, hF4, by omega, ?_⟩
      have kF : TK G3 (upd G3 F (.lst (us ++ [v]))) := tk_upd fun q e => by rw [hF4] at e; cases e
      have hFd : F ≠ d ∧ F ≠ l := by simpa using nF2
      have x5 : SameX [d, l] G3 (upd G3 F (.lst (us ++ [v]))) → True := fun _ => trivial
      have b5 : Box (upd G3 F (.lst (us ++ [v]))) d l b t i k n3 ts is ps := by
        have ne : ∀ {a : Addr} {o : HO}, G3 a = some o → (H a ≠ none) → a ≠ F := fun _ h e => h (by rw [e]; exact hF)
        refine ⟨?_, ?_, ?_, ?_, bx4.nb, bx4.nt, bx4.ni, bx4.nk⟩
        · rw [upd_ne (ne bx4.ex (by rw [hB.ex]; simp))]; exact bx4.ex
        · rw [upd_ne (ne bx4.ht (by rw [hB.ht]; simp))]; exact bx4.ht
        · rw [upd_ne (ne bx4.hi (by rw [hB.hi]; simp))]; exact bx4.hi
        · rw [upd_ne (ne bx4.hk (by rw [hB.hk]; simp))]; exact bx4.hk
      refine ⟨_, xs ++ [y], us ++ [v], n3, rfl, ⟨?_, c4.tk.trans kF, c4.dk.keep (upd_ne (Ne.symm hFd.1)) (upd_ne (Ne.symm hFd.2)), b5⟩, upd_same, ?_, oks_app.mpr ⟨ho3, hy, trivial⟩, ?_, by rw [List.length_append, List.length_singleton]; omega⟩
      · intro a o ha hn
        rw [upd_ne (fun e => by rw [e, hF] at ha; cases ha)]
        exact c4.x a o ha hn
      · rw [encs_app]
        exact ((hr3.tk tk4).tk kF).app ⟨v, [], rfl, hv.tk kF, rfl⟩
      · rw [cnts_app]
        show cnts xs + (y.cnt + 0) + n3 = c
        omega
    · refine iteDf hn0 ?_
      exact ⟨_, xs, us, n1, rfl, c3, hF3, hr3, ho3, hc3, by omega⟩
  · obtain ⟨o4, xs, us, n1, rfl, c3, hF3, hr3, ho3, hc3, hl3⟩ := hp
    refine ⟨_, rfl, F, us, rfl, hF3, fun v hv => ?_⟩
    have s5 : Same G1 (upd G1 v (.tup us)) := same_upd hv
    have c4 := c3.same s5
    exact q xs _ _ n1 ho3 ⟨v, us, rfl, upd_same, hr3.same s5⟩ c4.x c4.tk c4.dk c4.bx hc3
theorem ok_law_drawn_commands (T : Top w K mg) : ∀ n : Nat, OK P w K mg base (2 * n + 10) "_law_drawn_commands" ["_law_deck_here", "_law_box", "_law_deep"] (sp_law_drawn_commands n)
  | 0 => ok_law_drawn_commands_step T 0 (ok_law_drawn_command_step T 0 _ (fun m h => by cases h) (ok_none (d := d_law_drawn_commands) (T.has 76 78 rfl rfl rfl rfl rfl) 7 sc_law_drawn_commands (fun _ _ _ _ _ _ us hl => match us, hl with | [_, _, _], _ => rfl)))
  | n + 1 => ok_law_drawn_commands_step T (n + 1) (ok_law_drawn_command_step T (n + 1) _ (fun m h => by cases h; rfl) (ok_law_drawn_commands T n))
end
end NP
/-! NPProg -/
namespace NP
open PySem PySem.Spec PyProof.Rows L2 TL
theorem procsOk_snoc {ts own is : List Str} : ∀ {pre : List Str} {rs : List (Str × List Cmd)} {n : Str} {cs : List Cmd}, procsOk ts own is pre rs → n ∈ pool → n ∉ pre ++ rs.map (·.1) → oks ts own is (pre ++ rs.map (·.1)) cs → procsOk ts own is pre (rs ++ [(n, cs)])
  | pre, [], n, cs, _, h1, h2, h3 => by
    rw [List.map_nil, List.append_nil] at h2 h3
    exact ⟨h1, h2, h3, trivial⟩
  | pre, (m, ds) :: rs, n, cs, ⟨a, b, e, g⟩, h1, h2, h3 => by
    refine ⟨a, b, e, procsOk_snoc g h1 ?_ ?_⟩
    · rw [List.append_assoc]; exact h2
    · rw [List.append_assoc]; exact h3
theorem pcnt_snoc : ∀ (rs : List (Str × List Cmd)) (n : Str) (cs : List Cmd), pcnt (rs ++ [(n, cs)]) = pcnt rs + cnts cs
  | [], n, cs => by show cnts cs + 0 = 0 + cnts cs; omega
  | (m, ds) :: rs, n, cs => by
    have := pcnt_snoc rs n cs
    show cnts ds + pcnt (rs ++ [(n, cs)]) = cnts ds + pcnt rs + cnts cs
    omega
section
variable {P : Program} {w : World} {K : PySem.W.Frag} {mg : Str → Option Value} {base : Heap}
def sp_law_drawn_program : Sp := fun vs H Q _ => ∃ (d l : Addr), vs = [.ref d, .int 16, .int 4] ∧ Deck H d l ∧ ∀ (s : Scr) v H', s.ok → Rp H' s.enc v → Deck H' d l → Q v H'
abbrev nn_law_drawn_program : List Str := ["_law_deck_here", "_law_size", "_law_deep", "_law_tapes", "_law_indexes", "_law_procedures", "_law_box", "_law_it", "_law_left", "_law_turn", "_law_name"]
theorem sc_law_drawn_program : FnScope nn_law_drawn_program ["_law_deck_here", "_law_size", "_law_deep"] d_law_drawn_program.scope := ⟨rfl, rfl, rfl, by decide +kernel, rfl, by decide +kernel, by decide +kernel⟩
theorem ok_law_drawn_program (T : Top w K mg) : OK P w K mg base 19 "_law_drawn_program" ["_law_deck_here", "_law_size", "_law_deep"] sp_law_drawn_program := by
  refine Has.ok (d := d_law_drawn_program) (T.has 78 80 rfl rfl rfl rfl rfl) sc_law_drawn_program (fun _ _ _ _ _ _ us hl => match us, hl with | [_, _, _], _ => rfl) (by rintro _ _ _ _ ⟨_, _, rfl, _⟩; rfl) (fun f cdv A outer s H vs Q E hRm h => ?_)
  obtain ⟨d, l, rfl, hD, q⟩ := h
  refine ⟨_, (pss_cons (ps_par3 (i := 3) (j := 4) (l := 5) rfl sc_law_drawn_program.nd rfl rfl rfl (by decide) (by decide) (by decide) rfl rfl rfl (pa_cons (pe_c (ok_law_drawn_heads T) (hRm.mono (by decide)) (by rfl) (pa_cons (pv 0) (pa_cons pe_int pa_nil))) (pa_cons (pe_c (ok_law_drawn_heads T) (hRm.mono (by decide)) (by rfl) (pa_cons (pv 0) (pa_cons pe_int pa_nil))) (pa_cons (pe_tup pa_nil) pa_nil))) (by rfl))
    (pss_cons (ps_set (i := 6) sc_law_drawn_program.nd rfl (.inl rfl) (pe_disp (pps_cons pe_str (pe_op op_cat (pe_lst (pa_cons pe_str pa_nil)) (pe_lc (own := [("_law_it", 7)]) rfl sc_law_drawn_program.nd (pi_tup (pv 3)) (blkOk_by (N := nn_law_drawn_program) (sc := d_law_drawn_program.scope) (by decide +kernel)) (fun _ _ _ _ _ => (pg_name (i := 7) sc_law_drawn_program.nd rfl (.inl rfl))) (fun _ _ _ _ _ => pts_nil) (fun _ _ _ _ _ => (pe_ix ixT (pv 7) pe_int (fun _ _ => rfl))))) (pps_cons pe_str (pe_lc (own := [("_law_it", 7)]) rfl sc_law_drawn_program.nd (pi_tup (pv 4)) (blkOk_by (N := nn_law_drawn_program) (sc := d_law_drawn_program.scope) (by decide +kernel)) (fun _ _ _ _ _ => (pg_name (i := 7) sc_law_drawn_program.nd rfl (.inl rfl))) (fun _ _ _ _ _ => pts_nil) (fun _ _ _ _ _ => (pe_ix ixT (pv 7) pe_int (fun _ _ => rfl)))) (pps_cons pe_str (pe_lst pa_nil) (pps_cons pe_str (pv 1) pps_nil)))) (by rfl) (by rfl) (fun z => by cases z) (by decide)))
    (pss_cons (ps_set (i := 8) sc_law_drawn_program.nd rfl (.inl rfl) (pe_c0 (ok_law_pool T) (hRm.mono (by decide)) (by rfl)))
    (pss_cons (ps_for PassesOwn.never rfl (pi_range1 (by rfl) (T.free 99) (pa_cons (pe_c (ok_law_pick T) (hRm.mono (by decide)) (by rfl) (pa_cons (pv 0) (pa_cons (pe_lst (pa_cons pe_int (pa_cons pe_int (pa_cons pe_int (pa_cons pe_int (pa_cons pe_int pa_nil)))))) pa_nil))) pa_nil)) (pg_name (i := 9) sc_law_drawn_program.nd rfl (.inl rfl)) (pss_cons (ps_set (i := 10) sc_law_drawn_program.nd rfl (.inl rfl) (pe_bm PySem.F.plainAttrs_list PySem.F.slot_list_pop PySem.F.type_list_pop mt_popAt (pv 8) (pa_cons (pe_c (ok_law_draw T) (hRm.mono (by decide)) (by rfl) (pa_cons (pv 0) (pa_cons (pe_callB lenA (by rfl) (T.free 92) (by decide +kernel) (pa_cons (pv 8) pa_nil)) pa_nil))) pa_nil)))
    (pss_cons (ps_set (i := 5) sc_law_drawn_program.nd rfl (.inl rfl) (pe_op catT (pv 5) (pe_tup (pa_cons (pe_tup (pa_cons (pv 10) (pa_cons (pe_c (ok_law_drawn_commands T 4) (hRm.mono (by decide)) (by rfl) (pa_cons (pv 0) (pa_cons (pv 6) (pa_cons (pv 2) pa_nil)))) pa_nil))) pa_nil))))
    (pss_one (ps_dput (hu_of hRm) (pv 6) pe_str (pe_op op_cat (pe_dget (hu_of hRm) (pv 6) pe_str (fun _ _ => rfl)) (pe_lst (pa_cons (pv 10) pa_nil))) rfl)))))
    (pss_one (ps_ret (pe_tup (pa_cons (pv 3) (pa_cons (pv 4) (pa_cons (pv 5) pa_nil)))))))))), ?_⟩
  have big : 10000 ≤ sizeLine := by decide
  refine ⟨_, rfl, d, l, 3, rfl, hD, by decide, fun ts v1 H1 hts hv1 sx1 tk1 d1 => ?_⟩
  refine ⟨_, rfl, d, l, 3, rfl, d1, by decide, fun is v2 H2 his hv2 sx2 tk2 d2 => ?_⟩
  refine ⟨by show 0 ≤ sizeLine; decide, fun e he => ?_⟩
  obtain ⟨a1, xs1, rfl, ha1, hr1⟩ := hv1
  obtain ⟨a2, xs2, rfl, ha2, hr2⟩ := hv2
  have ha1 := tk2 _ _ ha1
  have hr1 := hr1.tk tk2
  have e1 := RpL.len hr1
  have e2 := RpL.len hr2
  rw [List.length_map] at e1 e2
  have tl := hts.len
  have il := his.len
  have se : Same H2 (upd H2 e (.tup [])) := same_upd he
  have he3 : (upd H2 e (.tup [])) e = some (.tup []) := upd_same
  have d3 := d2.same se
  have x3 : SameX [d, l] H (upd H2 e (.tup [])) := (sx1.trans sx2).trans (same_x se _)
  have ha13 := se _ _ ha1
  have ha23 := se _ _ ha2
  have hr13 := hr1.same se
  have hr23 := hr2.same se
  generalize upd H2 e (.tup []) = H3 at se he3 d3 x3 ha13 ha23 hr13 hr23 ⊢
  refine ⟨_, _, _, rfl, ?_⟩
  intro D hD3
  have s4 : Same H3 (upd H3 D (.dK [])) := same_upd hD3
  have hD4 : (upd H3 D (.dK [])) D = some (.dK []) := upd_same
  generalize upd H3 D (.dK []) = H4 at s4 hD4 ⊢
  refine ⟨by show 1 ≤ sizeLine; decide, fun I1 hI1 => ?_⟩
  have s5 : Same H4 (upd H4 I1 (.lst [.str "input"])) := same_upd hI1
  have hI5 : (upd H4 I1 (.lst [.str "input"])) I1 = some (.lst [.str "input"]) := upd_same
  generalize upd H4 I1 (.lst [.str "input"]) = H5 at s5 hI5 ⊢
  have s35 := s4.trans s5
  refine ⟨_, rfl, a1, rfl, ⟨_, .of (s35 _ _ ha13)⟩, fun D1 hD1 => ?_⟩
  refine lc_map walk_tup hD1 (by omega) (fun H' s1 => .of (s1 _ _ (s35 _ _ ha13))) (fun i y _ => ∃ h, ts[i]? = some h ∧ y = .str h.1) (fun _ _ _ _ h _ => h) (fun i x G1 G2 hi sg hy C k => ?_) fun ys1 H6 hn1 s6 hD6 hy6 => ?_
  · obtain ⟨rfl, hx⟩ := hy
    obtain ⟨dd, h1, h2⟩ := RpL.at_ hr13 hx
    rw [List.getElem?_map] at h1
    obtain ⟨h, h3, rfl⟩ := Option.map_eq_some_iff.mp h1
    obtain ⟨p, u, rfl, hp, hu⟩ := Rp.head2 h2
    exact ⟨rfl, _, rfl, p, _, 0, _, rfl, rfl, (s35.trans sg) _ _ hp, rfl, k _ _ (.refl _) ⟨h, h3, rfl⟩⟩
  have g1 : ys1 = (ts.map (·.1)).map V.str := by
    refine List.ext_getElem? fun i => ?_
    by_cases hi : i < ys1.length
    · obtain ⟨h, hq, e⟩ := hy6 i ys1[i] (List.getElem?_eq_getElem hi)
      rw [List.getElem?_eq_getElem hi, List.getElem?_map, List.getElem?_map, hq, e]
      rfl
    · rw [List.getElem?_eq_none (by omega), List.getElem?_eq_none (by simp; omega)]
  subst g1
  have s36 := s35.trans s6
  refine ⟨I1, D1, _, _, rfl, rfl, s6 _ _ hI5, hD6, by simp only [List.length_map, List.length_cons, List.length_nil]; omega, fun T1 hT1 => ?_⟩
  have s7 : Same H6 (upd H6 T1 (.lst ([.str "input"] ++ (ts.map (·.1)).map V.str))) := same_upd hT1
  have hT7 : (upd H6 T1 (.lst ([.str "input"] ++ (ts.map (·.1)).map V.str))) T1 = some (.lst ((("input" : Str) :: ts.map (·.1)).map V.str)) := upd_same
  generalize upd H6 T1 (.lst ([.str "input"] ++ (ts.map (·.1)).map V.str)) = H7 at s7 hT7 ⊢
  have s37 := s36.trans s7
  refine ⟨_, rfl, a2, rfl, ⟨_, .of (s37 _ _ ha23)⟩, fun D2 hD2 => ?_⟩
  refine lc_map walk_tup hD2 (by omega) (fun H' s1 => .of (s1 _ _ (s37 _ _ ha23))) (fun i y _ => ∃ h, is[i]? = some h ∧ y = .str h.1) (fun _ _ _ _ h _ => h) (fun i x G1 G2 hi sg hy C k => ?_) fun ys2 H8 hn2 s8 hD8 hy8 => ?_
  · obtain ⟨rfl, hx⟩ := hy
    obtain ⟨dd, h1, h2⟩ := RpL.at_ hr23 hx
    rw [List.getElem?_map] at h1
    obtain ⟨h, h3, rfl⟩ := Option.map_eq_some_iff.mp h1
    obtain ⟨p, u, rfl, hp, hu⟩ := Rp.head2 h2
    exact ⟨rfl, _, rfl, p, _, 0, _, rfl, rfl, (s37.trans sg) _ _ hp, rfl, k _ _ (.refl _) ⟨h, h3, rfl⟩⟩
  have g2 : ys2 = (is.map (·.1)).map V.str := by
    refine List.ext_getElem? fun i => ?_
    by_cases hi : i < ys2.length
    · obtain ⟨h, hq, e⟩ := hy8 i ys2[i] (List.getElem?_eq_getElem hi)
      rw [List.getElem?_eq_getElem hi, List.getElem?_map, List.getElem?_map, hq, e]
      rfl
    · rw [List.getElem?_eq_none (by omega), List.getElem?_eq_none (by simp; omega)]
  subst g2
  have s38 := s37.trans s8
  refine ⟨by show 0 ≤ sizeLine; decide, fun K1 hK1 => ?_⟩
  have s9 : Same H8 (upd H8 K1 (.lst [])) := same_upd hK1
  have hK9 : (upd H8 K1 (.lst [])) K1 = some (.lst (([] : List Str).map V.str)) := upd_same
  generalize upd H8 K1 (.lst []) = H9 at s9 hK9 ⊢
  have s39 := s38.trans s9
  have hD9 := (((s5.trans s6).trans s7).trans (s8.trans s9)) _ _ hD4
  have hT9 := (s8.trans s9) _ _ hT7
  have hI9 := s9 _ _ hD8
  have d9 := d3.same s39
  -- what is new stands apart
  have nin : ∀ {G : Hp} {F : Addr}, Same H3 G → G F = none → F ∉ [d, l] := fun {G F} sg hF => by
    have dG := d3.same sg
    obtain ⟨_, _, a⟩ := dG.ex
    obtain ⟨_, b, _⟩ := dG.ls
    have n1 : F ≠ d := fun z => by rw [← z, hF] at a; cases a
    have n2 : F ≠ l := fun z => by rw [← z, hF] at b; cases b
    simp [n1, n2]
  have nD := nin (.refl _) hD3
  have nT := nin s36 hT1
  have nI := nin s37 hD2
  have nK := nin s38 hK1
  refine ⟨_, rfl, hD9, bx T1 D2 K1 16, rfl, by show 4 ≤ 15; decide, ?_⟩
  rw [show mergeK [] (bx T1 D2 K1 16) = bx T1 D2 K1 16 from rfl]
  have hDn : D ≠ d ∧ D ≠ l := by simpa using nD
  have hTD : T1 ≠ D := fun z => by rw [z, hD9] at hT9; cases hT9
  have hID : D2 ≠ D := fun z => by rw [z, hD9] at hI9; cases hI9
  have hKD : K1 ≠ D := fun z => by rw [z, hD9] at hK9; cases hK9
  have b10 : Box (upd H9 D (.dK (bx T1 D2 K1 16))) d l D T1 D2 K1 16 (("input" : Str) :: ts.map (·.1)) (is.map (·.1)) [] :=
    ⟨upd_same, by rw [upd_ne hTD]; exact hT9, by rw [upd_ne hID]; exact hI9, by rw [upd_ne hKD]; exact hK9, nD, nT, nI, nK⟩
  have k10 : TK H3 (upd H9 D (.dK (bx T1 D2 K1 16))) := (same_tk s39).trans (tk_upd fun q z => by rw [hD9] at z; cases z)
  have d10 : Deck (upd H9 D (.dK (bx T1 D2 K1 16))) d l := d9.keep (upd_ne (Ne.symm hDn.1)) (upd_ne (Ne.symm hDn.2))
  generalize upd H9 D (.dK (bx T1 D2 K1 16)) = H10 at b10 k10 d10 ⊢
  refine ⟨(), rfl, fun W hW => ?_⟩
  have s11 : Same H10 (upd H10 W (.lst (poolW.map V.str))) := same_upd hW
  have hW11 : (upd H10 W (.lst (poolW.map V.str))) W = some (.lst (poolW.map V.str)) := upd_same
  have nW : W ∉ [d, l, D, T1, D2, K1] := by
    obtain ⟨_, _, a⟩ := d10.ex
    obtain ⟨_, b, _⟩ := d10.ls
    have n1 : W ≠ d := fun z => by rw [← z, hW] at a; cases a
    have n2 : W ≠ l := fun z => by rw [← z, hW] at b; cases b
    have n3 : W ≠ D := fun z => by have h := b10.ex; rw [← z, hW] at h; cases h
    have n4 : W ≠ T1 := fun z => by have h := b10.ht; rw [← z, hW] at h; cases h
    have n5 : W ≠ D2 := fun z => by have h := b10.hi; rw [← z, hW] at h; cases h
    have n6 : W ≠ K1 := fun z => by have h := b10.hk; rw [← z, hW] at h; cases h
    simp [n1, n2, n3, n4, n5, n6]
  have b11 := b10.keep (same_x s11 _)
  have k11 := k10.trans (same_tk s11)
  have d11 := d10.same s11
  generalize upd H10 W (.lst (poolW.map V.str)) = H11 at s11 hW11 b11 k11 d11 ⊢
  refine ⟨_, rfl, by show 5 ≤ sizeLine; decide, fun A1 hA1 => ?_⟩
  have tA : Same H11 (upd H11 A1 (.lst [V.int 1, V.int 2, V.int 3, V.int 0, V.int 1])) := same_upd hA1
  refine ⟨d, l, A1, _, rfl, d11.same tA, upd_same, dnew d11 hA1, List.cons_ne_nil _ _, by show 5 ≤ 2000000000000; decide, fun z H12 hz sx12 tk12 d12 => ?_⟩
  obtain ⟨r, rfl, hr⟩ : ∃ r : Nat, z = .int (r : Int) ∧ r ≤ 3 := by
    simp only [List.mem_cons, List.not_mem_nil, or_false] at hz
    rcases hz with e | e | e | e | e
    · exact ⟨1, e, by decide⟩
    · exact ⟨2, e, by decide⟩
    · exact ⟨3, e, by decide⟩
    · exact ⟨0, e, by decide⟩
    · exact ⟨1, e, by decide⟩
  have b12 := (b11.keep (same_x tA _)).keep sx12
  have k12 := (k11.trans (same_tk tA)).trans tk12
  have nW2 : W ∉ [d, l] := fun h => nW (by simp only [List.mem_cons, List.not_mem_nil, or_false] at h ⊢; exact h.elim .inl fun z => .inr (.inl z))
  have hW12 := sx12 _ _ (tA _ _ hW11) nW2
  refine ⟨(r : Int), rfl, by omega, by omega, ?_⟩
  rw [Int.toNat_natCast]
  have nW6 : W ≠ d ∧ W ≠ l ∧ W ≠ D ∧ W ≠ T1 ∧ W ≠ D2 ∧ W ≠ K1 := by simpa using nW
  refine for_it (walk_range (lo := 0) (n := r)) (fun i σ H' => ∃ (pr k1 : Addr) (prs : List V) (rs : List (Str × List Cmd)) (ws : List Str) (c : Nat) (o9 o10 : Option V), σ = [some (.ref d), some (.int 16), some (.int 4), some (.ref a1), some (.ref a2), some (.ref pr), some (.ref D), none, some (.ref W), o9, o10] ∧ TK H3 H' ∧ Deck H' d l ∧ Box H' d l D T1 D2 k1 c (("input" : Str) :: ts.map (·.1)) (is.map (·.1)) (rs.map (·.1)) ∧ H' W = some (.lst (ws.map V.str)) ∧ W ≠ k1 ∧ H' pr = some (.tup prs) ∧ RpL H' (rs.map encR) prs ∧ Left ws (rs.map (·.1)) i ∧ procsOk (("input" : Str) :: ts.map (·.1)) (ts.map (·.1)) (is.map (·.1)) [] rs ∧ pcnt rs + c = 16) ⟨e, K1, [], [], poolW, 16, none, none, rfl, k12, d12, b12, hW12, nW6.2.2.2.2.2, k12 _ _ he3, rfl, left0, trivial, by decide⟩ (fun _ _ _ _ _ => trivial) (fun i x σ G1 G2 hi hp hy => ?_) (fun σ G1 hp => ?_)
  · obtain ⟨pr, k1, prs, rs, ws, c, o9, o10, rfl, kk, dd, bb, hWs, nWk, hpr, hrr, hL, hpo, hpc⟩ := hp
    obtain ⟨rfl, rfl⟩ := hy
    have hwl := hL.len
    have hrl := hL.nlen
    rw [List.length_map] at hrl
    refine ⟨_, rfl, .inl ⟨rfl, _, .of hWs⟩, _, rfl, _, rfl, W, _, rfl, .inr hWs, d, l, ws.length, by rw [List.length_map]; rfl, dd, by omega, by omega, fun z H5 hz sx5 tk5 dD5 => ?_⟩
    have hW5 := sx5 _ _ hWs nW2
    have b5 := bb.keep sx5
    have hz2 : ws[z]? = some ws[z] := List.getElem?_eq_getElem hz
    refine ⟨W, _, (z : Int), z, .str ws[z], rfl, rfl, hW5, by omega, by omega, by rw [List.length_map]; exact sIx_nat hz, by rw [List.getElem?_map, hz2]; rfl, ?_⟩
    have hL6 := hL.pop hz2
    rw [show (ws.map V.str).eraseIdx z = (ws.eraseIdx z).map V.str by rw [map_erase]]
    have b6 : Box (upd H5 W (.lst ((ws.eraseIdx z).map V.str))) d l D T1 D2 k1 c (("input" : Str) :: ts.map (·.1)) (is.map (·.1)) (rs.map (·.1)) :=
      ⟨by rw [upd_ne (Ne.symm nW6.2.2.1)]; exact b5.ex, by rw [upd_ne (Ne.symm nW6.2.2.2.1)]; exact b5.ht, by rw [upd_ne (Ne.symm nW6.2.2.2.2.1)]; exact b5.hi, by rw [upd_ne (Ne.symm nWk)]; exact b5.hk, b5.nb, b5.nt, b5.ni, b5.nk⟩
    have k6 : TK G2 (upd H5 W (.lst ((ws.eraseIdx z).map V.str))) := tk5.trans (tk_upd fun q e => by rw [hW5] at e; cases e)
    have d6 : Deck (upd H5 W (.lst ((ws.eraseIdx z).map V.str))) d l := dD5.keep (upd_ne (Ne.symm nW6.1)) (upd_ne (Ne.symm nW6.2.1))
    have hW6 : (upd H5 W (.lst ((ws.eraseIdx z).map V.str))) W = some (.lst ((ws.eraseIdx z).map V.str)) := upd_same
    generalize upd H5 W (.lst ((ws.eraseIdx z).map V.str)) = H6 at b6 k6 d6 hW6 ⊢
    have hnp : ws[z] ∈ pool := hL.sub _ (List.getElem_mem hz)
    have hnn : ws[z] ∉ rs.map (·.1) := fun h => hL.out _ h (List.getElem_mem hz)
    generalize ws[z] = nm at hz2 hL6 hnp hnn ⊢
    refine ⟨_, rfl, _, rfl, _, rfl, _, rfl, _, rfl, d, l, D, T1, D2, k1, c, _, _, _, rfl, d6, b6, List.cons_ne_nil _ _, by simp only [List.length_map, List.length_cons]; omega, by rw [List.length_map]; omega, by rw [List.length_map]; omega, fun xs v H7 n1 hxs hv sx7 tk7 d7 b7 hcn => ?_⟩
    have nWD : W ∉ [d, l, D] := by simp [nW6.1, nW6.2.1, nW6.2.2.1]
    have hW7 := sx7 _ _ hW6 nWD
    refine ⟨by show 2 ≤ sizeLine; decide, fun u1 hu1 => ⟨by show 1 ≤ sizeLine; decide, fun u2 hu2 => ?_⟩⟩
    have t1 : Same H7 (upd H7 u1 (.tup [.str nm, v])) := same_upd hu1
    have hu17 : (upd H7 u1 (.tup [.str nm, v])) u1 = some (.tup [.str nm, v]) := upd_same
    generalize upd H7 u1 (.tup [.str nm, v]) = H8' at t1 hu17 hu2 ⊢
    have t2 : Same H8' (upd H8' u2 (.tup [.ref u1])) := same_upd hu2
    have hu28 : (upd H8' u2 (.tup [.ref u1])) u2 = some (.tup [.ref u1]) := upd_same
    generalize upd H8' u2 (.tup [.ref u1]) = H9' at t2 hu28 ⊢
    have t12 := t1.trans t2
    have k29 : TK G2 H9' := (k6.trans tk7).trans (same_tk t12)
    have hpl : prs.length ≤ 3 := by
      have := RpL.len hrr
      rw [List.length_map] at this
      omega
    refine ⟨pr, u2, prs, [.ref u1], rfl, rfl, k29 _ _ hpr, hu28, by simp only [List.length_cons, List.length_nil]; omega, fun p H13 s13 hp13 => ?_⟩
    have t13 := t12.trans s13
    have b13 := b7.keep (same_x t13 _)
    refine ⟨_, rfl, D, _, rfl, b13.gk, _, rfl, by show 1 ≤ sizeLine; decide, fun n0 hn0 => ?_⟩
    have t14 : Same H13 (upd H13 n0 (.lst [.str nm])) := same_upd hn0
    have hn14 : (upd H13 n0 (.lst [.str nm])) n0 = some (.lst [.str nm]) := upd_same
    generalize upd H13 n0 (.lst [.str nm]) = H14 at t14 hn14 ⊢
    have b14 := b13.keep (same_x t14 _)
    refine ⟨k1, n0, _, _, rfl, rfl, b14.hk, hn14, by simp only [List.length_map, List.length_cons, List.length_nil]; omega, fun k2 hk2 => ?_⟩
    have t15 : Same H14 (upd H14 k2 (.lst ((rs.map (·.1)).map V.str ++ [.str nm]))) := same_upd hk2
    have hk15 : (upd H14 k2 (.lst ((rs.map (·.1)).map V.str ++ [.str nm]))) k2 = some (.lst (((rs ++ [(nm, xs)]).map (·.1)).map V.str)) := by
      rw [upd_same, List.map_append, List.map_append]; rfl
    have nk2 : k2 ∉ [d, l] := by
      have dG := d7.same (t13.trans t14)
      obtain ⟨_, _, a⟩ := dG.ex
      obtain ⟨_, b, _⟩ := dG.ls
      have n1 : k2 ≠ d := fun z => by rw [← z, hk2] at a; cases a
      have n2 : k2 ≠ l := fun z => by rw [← z, hk2] at b; cases b
      simp [n1, n2]
    have hW14 := (t13.trans t14) _ _ hW7
    have nWk2 : W ≠ k2 := fun z => by rw [z, hk2] at hW14; cases hW14
    generalize upd H14 k2 (.lst ((rs.map (·.1)).map V.str ++ [.str nm])) = H15 at t15 hk15 ⊢
    have b15 := b14.keep (same_x t15 _)
    refine ⟨_, rfl, D, _, rfl, DPut.k (k := Sum.inr "known") b15.ex (by show 4 < sizeLine; decide), ?_⟩
    rw [bx_putk]
    have hk2D : k2 ≠ D := fun z => by have h := b15.ex; rw [← z, hk15] at h; cases h
    have t715 := (t13.trans t14).trans t15
    have kD : TK H15 (upd H15 D (.dK (bx T1 D2 k2 n1))) := tk_upd fun q z => by rw [b15.ex] at z; cases z
    have d15 := d7.same t715
    have k215 : TK G2 (upd H15 D (.dK (bx T1 D2 k2 n1))) := ((k6.trans tk7).trans (same_tk t715)).trans kD
    have s1315 := t14.trans t15
    refine ⟨p, k2, prs ++ [.ref u1], rs ++ [(nm, xs)], ws.eraseIdx z, n1, _, _, rfl, kk.trans k215, d15.keep (upd_ne (Ne.symm hDn.1)) (upd_ne (Ne.symm hDn.2)), ?_, by rw [upd_ne nW6.2.2.1]; exact t15 _ _ hW14, nWk2, kD _ _ (s1315 _ _ hp13), ?_, by rw [List.map_append]; exact hL6, procsOk_snoc hpo hnp (by rw [List.nil_append]; exact hnn) (by rw [List.nil_append]; exact hxs), by rw [pcnt_snoc]; omega⟩
    · exact ⟨upd_same, by rw [upd_ne b15.tb]; exact b15.ht, by rw [upd_ne b15.ib]; exact b15.hi, by rw [upd_ne hk2D]; exact hk15, b15.nb, b15.nt, b15.ni, nk2⟩
    · rw [List.map_append]
      refine (hrr.tk k215).app ⟨_, [], rfl, ⟨u1, [.str nm, v], rfl, kD _ _ (((t2.trans s13).trans s1315) _ _ hu17), .str nm, [v], rfl, rfl, v, [], rfl, (hv.same t715).tk kD, rfl⟩, rfl⟩
  · obtain ⟨pr, k1, prs, rs, ws, c, o9, o10, rfl, kk, dd, bb, hWs, nWk, hpr, hrr, hL, hpo, hpc⟩ := hp
    have hrl := hL.nlen
    rw [List.length_map] at hrl
    refine ⟨_, rfl, _, rfl, _, rfl, by show 3 ≤ sizeLine; decide, fun u hu => ?_⟩
    have su : Same G1 (upd G1 u (.tup [.ref a1, .ref a2, .ref pr])) := same_upd hu
    have kz := kk.trans (same_tk su)
    refine q ⟨ts, is, rs⟩ _ _ ⟨hts.nd, hts.ok, his.nd, his.ok, hpo, tl, il, by show rs.length ≤ 3; omega, by show pcnt rs ≤ 16; omega⟩ ⟨u, _, rfl, upd_same, .ref a1, [.ref a2, .ref pr], rfl, ⟨a1, xs1, rfl, kz _ _ ha13, hr13.tk kz⟩, .ref a2, [.ref pr], rfl, ⟨a2, xs2, rfl, kz _ _ ha23, hr23.tk kz⟩, .ref pr, [], rfl, ⟨pr, prs, rfl, su _ _ hpr, hrr.same su⟩, rfl⟩ (dd.same su)
end
end NP
/-! NPLaw1 -/
namespace NP
open PySem PySem.Spec PyProof.Rows L2 TL
section
variable {P : Program} {w : World} {K : PySem.W.Frag} {mg : Str → Option Value} {base : Heap}
theorem tp_alt {e c : Nat} (h : e ≠ 0) : textPair (e, c) = tpF c ++ "n" ++ tpB e := tp_pos c h
def sp_law_poly_text : Sp := fun vs H Q _ => ∃ (p : Poly) (v : V), vs = [v] ∧ Rp H (encP p) v ∧ PolyOk p ∧ ∀ H', Same H H' → Q (.str (textPoly p)) H'
abbrev nn_law_poly_text : List Str := ["_law_poly", "_law_found", "_law_e", "_law_c"]
theorem sc_law_poly_text : FnScope nn_law_poly_text ["_law_poly"] d_law_poly_text.scope := ⟨rfl, rfl, rfl, by decide +kernel, rfl, by decide +kernel, by decide +kernel⟩
theorem ok_law_poly_text (T : Top w K mg) : OK P w K mg base 1 "_law_poly_text" ["_law_poly"] sp_law_poly_text := by
  refine Has.ok (d := d_law_poly_text) (T.has 67 69 rfl rfl rfl rfl rfl) sc_law_poly_text (fun _ _ _ _ _ _ us hl => match us, hl with | [_], _ => rfl) (by rintro _ _ _ _ ⟨_, _, rfl, _⟩; rfl) (fun f cdv A outer s H vs Q E hRm h => ?_)
  obtain ⟨p, v, rfl, hv, hp, q⟩ := h
  obtain ⟨a, xs, rfl, ha, hl, hx⟩ := Rp.poly hv
  refine ⟨_, (pss_cons (ps_set (i := 1) sc_law_poly_text.nd rfl (.inl rfl) (pe_lst pa_nil))
    (pss_cons (ps_for PassesOwn.never rfl (pi_tup (pe_revT (pv 0))) (pg_tup rfl (pgs_cons (pg_name (i := 2) sc_law_poly_text.nd rfl (.inl rfl) (.inr rfl)) (pgs_cons (pg_name (i := 3) sc_law_poly_text.nd rfl (.inl rfl) (.inr rfl)) pgs_nil))) (pss_one (ps_if (pt_cmpR op_eq (pv 2) pe_int (nomark _)) (pss_one (ps_expr (pe_bm PySem.F.plainAttrs_list PySem.F.slot_list_append PySem.F.type_list_append mt_append (pv 1) (pa_cons (pe_callTy call_str_int (by rfl) (T.free 101) (by decide +kernel) (pa_cons (pv 3) pa_nil)) pa_nil)))) (pss_one (ps_expr (pe_bm PySem.F.plainAttrs_list PySem.F.slot_list_append PySem.F.type_list_append mt_append (pv 1) (pa_cons (pe_op op_add_str (pe_op op_add_str (pe_ifExp (pt_cmpR op_eq (pv 3) pe_int (nomark _)) pe_str (pe_op op_add_str (pe_callTy call_str_int (by rfl) (T.free 101) (by decide +kernel) (pa_cons (pv 3) pa_nil)) pe_str)) pe_str) (pe_ifExp (pt_cmpR op_eq (pv 2) pe_int (nomark _)) pe_str (pe_op op_add_str pe_str (pe_callTy call_str_int (by rfl) (T.free 101) (by decide +kernel) (pa_cons (pv 2) pa_nil))))) pa_nil)))))))
    (pss_one (ps_ret (pe_ifExp (pt_cmpR (op_neNilL hRm.units0) (pv 1) (pe_lst pa_nil) (nomark _)) (pe_join pe_str (pv 1)) pe_str))))), ?_⟩
  have hlen := hp.len
  have big : 1000 ≤ sizeLine := by decide
  refine ⟨by show 0 ≤ sizeLine; decide, fun F hF => ?_⟩
  have s0 : Same H (upd H F (.lst [])) := same_upd hF
  have hF0 : (upd H F (.lst [])) F = some (.lst ((([] : List (Nat × Nat)).map textPair).map V.str)) := upd_same
  generalize upd H F (.lst []) = H0 at s0 hF0 ⊢
  refine ⟨_, rfl, a, xs, rfl, s0 _ _ ha, fun R hR => ?_⟩
  have s1 : Same H (upd H0 R (.tup xs.reverse)) := s0.trans (same_upd hR)
  have hR1 : (upd H0 R (.tup xs.reverse)) R = some (.tup xs.reverse) := upd_same
  have hF1 := same_upd (o := .tup xs.reverse) hR _ _ hF0
  have hRF : R ≠ F := Ne.symm (ne_of_none hF0 hR)
  generalize upd H0 R (.tup xs.reverse) = H1 at s1 hR1 hF1 ⊢
  refine ⟨R, rfl, ⟨_, .of hR1⟩, ?_⟩
  refine for_it walk_tup (fun i σ H' => Same H H' ∧ TK H1 H' ∧ ∃ o2 o3, σ = [some (.ref a), some (.ref F), o2, o3] ∧ H' F = some (.lst (((p.reverse.take i).map textPair).map V.str))) ?_ (fun i σ H' _ hp => .of (hp.2.1 _ _ hR1)) (fun i x σ H2 H3 hi hp2 hy => ?_) (fun σ H2 hp2 => ?_)
  · exact ⟨s1, .refl _, none, none, rfl, hF1⟩
  · obtain ⟨s2, k2, o2, o3, rfl, hF2⟩ := hp2
    obtain ⟨rfl, hy⟩ := hy
    have hi : i < p.length := by simpa [hl] using hi
    have hi2 : p.length - 1 - i < p.length := by omega
    rw [List.getElem?_reverse (by omega), hl] at hy
    obtain ⟨b, hb, hb2⟩ := hx (p.length - 1 - i) p[p.length - 1 - i] (List.getElem?_eq_getElem hi2)
    rw [hb] at hy
    cases hy
    have hq := hp.2 p[p.length - 1 - i] (List.getElem_mem hi2)
    have hpr : p.reverse[i]? = some p[p.length - 1 - i] := by
      rw [List.getElem?_reverse (by omega)]
      exact List.getElem?_eq_getElem hi2
    generalize p[p.length - 1 - i] = ec at hb2 hq hpr
    obtain ⟨e, c⟩ := ec
    have he : e ≤ 1000000000000 := Nat.le_trans hq.1 (by decide)
    have hc : c ≤ 1000000000000 := hq.2.2
    have hst : ((p.reverse.take i).map textPair).length ≤ 4 := by rw [List.length_map, List.length_take, List.length_reverse]; omega
    have fin : ∀ z, z = textPair (e, c) → ∀ (o2 o3 : Option V), (Same H (upd H3 F (.lst (((p.reverse.take i).map textPair).map V.str ++ [.str z]))) ∧ TK H1 (upd H3 F (.lst (((p.reverse.take i).map textPair).map V.str ++ [.str z]))) ∧ ∃ p2 p3, [some (.ref a), some (.ref F), o2, o3] = [some (V.ref a), some (.ref F), p2, p3] ∧
        (upd H3 F (.lst (((p.reverse.take i).map textPair).map V.str ++ [.str z]))) F = some (.lst (((p.reverse.take (i + 1)).map textPair).map V.str))) := by
      rintro z rfl o2 o3
      refine ⟨Same.up s2 hF, k2.trans (tk_upd fun q z => by rw [hF2] at z; cases z), o2, o3, rfl, ?_⟩
      rw [List.take_add_one, hpr]
      show _ = some (HO.lst (((p.reverse.take i ++ [(e, c)]).map textPair).map V.str))
      rw [List.map_append, List.map_append]
      exact upd_same
    refine ⟨b, _, rfl, .of (s2 _ _ hb2), rfl, _, _, rfl, _, _, rfl, rfl, ?_⟩
    refine ⟨_, rfl, rfl, _, rfl, ?_⟩
    by_cases h0 : e = 0
    · refine iteDt (by rw [h0]; rfl) ?_
      refine ⟨_, rfl, .inl ⟨rfl, _, .of hF2⟩, _, rfl, _, rfl, log_ok hc, F, _, _, rfl, rfl, hF2, by rw [List.length_map]; omega, ?_⟩
      exact fin _ (by rw [h0]; rfl) _ _
    · refine iteDf (vi_ne (by show ((e : Nat) : Int) ≠ 0; omega)) ?_
      have hc1 := num_len hc
      have he1 := num_len he
      have ls : ("*" : Str).length = 1 := by decide +kernel
      have lc : ("^" : Str).length = 1 := by decide +kernel
      have ln : ("n" : Str).length = 1 := by decide +kernel
      have lF : (tpF c).length ≤ 14 := by
        unfold tpF
        split
        · decide
        · rw [s_len]; omega
      have lB : (tpB e).length ≤ 14 := by
        unfold tpB
        split
        · decide
        · rw [s_len]; omega
      have put := fun z h => (⟨F, _, V.str z, rfl, rfl, hF2, by rw [List.length_map]; omega, fin z h _ _⟩ : ∃ l xs y, V.ref F = V.ref l ∧ [V.str z] = [y] ∧ H3 l = some (.lst xs) ∧ xs.length < sizeLine ∧ (Same H (upd H3 l (.lst (xs ++ [y]))) ∧ TK H1 (upd H3 l (.lst (xs ++ [y]))) ∧ ∃ p2 p3, [some (V.ref a), some (.ref F), some (.int (e : Nat)), some (.int (c : Nat))] = [some (V.ref a), some (.ref F), p2, p3] ∧
        (upd H3 l (.lst (xs ++ [y]))) F = some (.lst (((p.reverse.take (i + 1)).map textPair).map V.str))))
      refine ⟨_, rfl, .inl ⟨rfl, _, .of hF2⟩, _, rfl, rfl, _, rfl, ?_⟩
      by_cases h1 : c = 1
      · have f1 : tpF c = ("" : Str) := if_pos h1
        rw [f1] at lF
        refine iteDt (by rw [h1]; rfl) ⟨_, _, rfl, rfl, by omega, _, rfl, rfl, _, rfl, ?_⟩
        by_cases h2 : e = 1
        · have f2 : tpB e = ("" : Str) := if_pos h2
          rw [f2] at lB
          exact iteDt (by rw [h2]; rfl) ⟨_, _, rfl, rfl, by rw [s_len]; omega, put _ (by rw [tp_alt h0, f1, f2])⟩
        · have f2 : tpB e = ("^" : Str) ++ num e := if_neg h2
          rw [f2] at lB
          exact iteDf (vi_ne (by show ((e : Nat) : Int) ≠ 1; omega)) ⟨_, rfl, _, rfl, log_ok he, _, _, rfl, rfl, by show ("^" : Str).length + (num e).length ≤ _; omega, _, _, rfl, rfl, by rw [s_len]; show _ + (("^" : Str) ++ num e).length ≤ _; omega, put _ (by rw [tp_alt h0, f1, f2]; rfl)⟩
      · have f1 : tpF c = num c ++ ("*" : Str) := if_neg h1
        rw [f1] at lF
        refine iteDf (vi_ne (by show ((c : Nat) : Int) ≠ 1; omega)) ⟨_, rfl, _, rfl, log_ok hc, _, _, rfl, rfl, by show (num c).length + ("*" : Str).length ≤ _; omega, _, _, rfl, rfl, by show (num c ++ ("*" : Str)).length + _ ≤ _; omega, _, rfl, rfl, _, rfl, ?_⟩
        have l2 : ((num c ++ ("*" : Str)) ++ ("n" : Str)).length ≤ 20 := by rw [s_len]; omega
        by_cases h2 : e = 1
        · have f2 : tpB e = ("" : Str) := if_pos h2
          rw [f2] at lB
          exact iteDt (by rw [h2]; rfl) ⟨_, _, rfl, rfl, by show ((num c ++ ("*" : Str)) ++ ("n" : Str)).length + _ ≤ _; omega, put _ (by rw [tp_alt h0, f1, f2]; rfl)⟩
        · have f2 : tpB e = ("^" : Str) ++ num e := if_neg h2
          rw [f2] at lB
          exact iteDf (vi_ne (by show ((e : Nat) : Int) ≠ 1; omega)) ⟨_, rfl, _, rfl, log_ok he, _, _, rfl, rfl, by show ("^" : Str).length + (num e).length ≤ _; omega, _, _, rfl, rfl, by show ((num c ++ ("*" : Str)) ++ ("n" : Str)).length + (("^" : Str) ++ num e).length ≤ _; omega, put _ (by rw [tp_alt h0, f1, f2]; rfl)⟩
  · obtain ⟨s2, k2, o2, o3, rfl, hF2⟩ := hp2
    rw [List.length_reverse, hl, List.take_of_length_le (by rw [List.length_reverse]; omega)] at hF2
    refine ⟨_, rfl, by show 0 ≤ sizeLine; decide, fun t ht => ?_⟩
    have s3 : Same H2 (upd H2 t (.lst [])) := same_upd ht
    refine ⟨F, t, _, rfl, rfl, .of (s3 _ _ hF2), .of upd_same, _, rfl, ?_⟩
    generalize upd H2 t (.lst []) = H3 at s3 ⊢
    by_cases h0 : p = []
    · subst h0
      exact iteF (q _ (s2.trans s3))
    · have e1 : (((p.reverse.map textPair).map V.str)).isEmpty = false := by
        cases hr : p.reverse with
        | nil => exact absurd (by simpa using hr) h0
        | cons _ _ => rfl
      rw [e1]
      refine iteT ⟨⟨_, rfl⟩, _, rfl, _, F, p.reverse.map textPair, rfl, rfl, .inl (.of (s3 _ _ hF2)), ?_, ?_⟩
      · have e3 : (" + " : Str).length = 3 := by decide +kernel
        rw [e3]
        refine join_fits (m := 30) (n := 4) (fun y hy => ?_) (by simp; exact hlen) (by decide)
        obtain ⟨z, hz, rfl⟩ := List.mem_map.mp hy
        have := hp.2 z (List.mem_reverse.mp hz)
        exact tp_len this.1 this.2.2
      · rw [join_eq]
        have e4 : textPoly p = Str.join " + " (p.reverse.map textPair) := by unfold textPoly; rw [if_neg h0]
        rw [e4] at q
        exact q _ (s2.trans s3)
end
end NP
/-! NPLaw2 -/
namespace NP
open PySem PySem.Spec PyProof.Rows L2 TL
section
variable {P : Program} {w : World} {K : PySem.W.Frag} {mg : Str → Option Value} {base : Heap}
/-- a + b where both are short -/
def rAS : R2 := fun x y H Q => ∃ i j : Str, x = .str i ∧ y = .str j ∧ i.length ≤ 8000000 ∧ j.length ≤ 8000000 ∧ Q (.str (i ++ j)) H
theorem as_fits {a b : Nat} (h1 : a ≤ 8000000) (h2 : b ≤ 8000000) : a + b ≤ sizeLine := by
  have : 16000000 ≤ sizeLine := by decide
  omega
theorem op_as {X : Cx} : OpR X (binaryOp .Add) rAS := fun pins s σ H x y v u Q I rx ry h =>
  let ⟨i, j, e1, e2, h1, h2, q⟩ := h
  op_add_str pins s σ H x y v u Q I rx ry ⟨i, j, e1, e2, as_fits h1 h2, q⟩
def Shk (k : Nat) (z : Str) : Prop := z.length ≤ 500 * k
theorem sh1 {z : Str} (h : z.length ≤ 500) : Shk 1 z := by unfold Shk; omega
theorem shA {k : Nat} {a b : Str} (h : Shk k a) (h2 : b.length ≤ 500) : Shk (k + 1) (a ++ b) := by
  unfold Shk at h ⊢
  rw [s_len]
  omega
theorem up {k : Nat} {z : Str} (h : Shk k z) (hk : k ≤ 1000 := by decide) : z.length ≤ 8000000 := by
  unfold Shk at h
  omega
theorem s26 {z : Str} (h : z.length ≤ 26) : z.length ≤ 500 := Nat.le_trans h (by decide)
def sp_law_test_text (n : Nat) : Sp := fun vs H Q _ => ∃ (t : Tst) (v : V), vs = [v] ∧ Rp H t.enc v ∧ t.fit ∧ t.nots ≤ n ∧ Q (.str t.text) H
theorem Tst.fit_no {t : Tst} (h : (Tst.no t).fit) : t.fit := ⟨h.1, by have h2 := h.2; have : (Tst.no t).nots = t.nots + 1 := rfl; omega⟩
abbrev nn_law_test_text : List Str := ["_law_test", "_law_word"]
theorem sc_law_test_text : FnScope nn_law_test_text ["_law_test"] d_law_test_text.scope := ⟨rfl, rfl, rfl, by decide +kernel, rfl, by decide +kernel, by decide +kernel⟩
theorem plw (p : Pl) : p.word ∈ [("is" : Str), "equal", "empty", "inside", "at"] := by cases p <;> simp [Pl.word]
theorem ok_law_test_text (T : Top w K mg) : ∀ n : Nat, OK P w K mg base (n + 1) "_law_test_text" ["_law_test"] (sp_law_test_text n) := by
  have l1 : ("[" : Str).length ≤ 500 := by decide +kernel
  have l2 : ("] is " : Str).length ≤ 500 := by decide +kernel
  have l3 : ("] equals " : Str).length ≤ 500 := by decide +kernel
  have l4 : ("]" : Str).length ≤ 500 := by decide +kernel
  have l5 : ("] empty" : Str).length ≤ 500 := by decide +kernel
  have l6 : (" has " : Str).length ≤ 500 := by decide +kernel
  have l7 : (" = " : Str).length ≤ 500 := by decide +kernel
  have l8 : ("not " : Str).length ≤ 500 := by decide +kernel
  intro n
  induction n with
  | zero =>
    refine Has.ok (d := d_law_test_text) (T.has 68 70 rfl rfl rfl rfl rfl) sc_law_test_text (fun _ _ _ _ _ _ us hl => match us, hl with | [_], _ => rfl) (by rintro _ _ _ _ ⟨_, _, rfl, _⟩; rfl) (fun f cdv A outer s H vs Q E hRm h => ?_)
    obtain ⟨t, v, rfl, hv, hf, hn, q⟩ := h
    refine ⟨_, (pss_cons (ps_set (i := 1) sc_law_test_text.nd rfl (.inl rfl) (pe_ix ixT (pv 0) pe_int (fun _ _ => rfl)))
    (pss_cons (ps_if (pt_cmpR op_eq (pv 1) pe_str (nomark _)) (pss_one ps_never) pss_nil)
    (pss_cons (ps_if (pt_cmpR op_eq (pv 1) pe_str (nomark _)) (pss_one (ps_ret (pe_op op_as (pe_op op_as (pe_op op_as (pe_op op_as (pe_ix ixT (pv 0) pe_int (fun _ _ => rfl)) pe_str) (pe_ix ixT (pv 0) pe_int (fun _ _ => rfl))) pe_str) (pe_ix ixT (pv 0) pe_int (fun _ _ => rfl))))) pss_nil)
    (pss_cons (ps_if (pt_cmpR op_eq (pv 1) pe_str (nomark _)) (pss_one (ps_ret (pe_op op_as (pe_op op_as (pe_op op_as (pe_op op_as (pe_op op_as (pe_op op_as (pe_op op_as (pe_ix ixT (pv 0) pe_int (fun _ _ => rfl)) pe_str) (pe_ix ixT (pv 0) pe_int (fun _ _ => rfl))) pe_str) (pe_ix ixT (pv 0) pe_int (fun _ _ => rfl))) pe_str) (pe_ix ixT (pv 0) pe_int (fun _ _ => rfl))) pe_str))) pss_nil)
    (pss_cons (ps_if (pt_cmpR op_eq (pv 1) pe_str (nomark _)) (pss_one (ps_ret (pe_op op_as (pe_op op_as (pe_op op_as (pe_ix ixT (pv 0) pe_int (fun _ _ => rfl)) pe_str) (pe_ix ixT (pv 0) pe_int (fun _ _ => rfl))) pe_str))) pss_nil)
    (pss_one (ps_ret (pe_op op_as (pe_op op_as (pe_ix ixT (pv 0) pe_int (fun _ _ => rfl)) (pe_ifExp (pt_cmpR op_eq (pv 1) pe_str (nomark _)) pe_str pe_str)) (pe_ix ixT (pv 0) pe_int (fun _ _ => rfl)))))))))), ?_⟩
    cases t with
    | no t => exact absurd hn (Nat.not_succ_le_zero _)
    | pl p =>
      obtain ⟨b, rfl, hb⟩ := Rp.ws hv
      have hl := Parts.lens hf.1
      refine ⟨_, rfl, b, _, 0, _, rfl, rfl, (by rw [p.ws_eq] at hb; exact hb), rfl, ?_⟩
      have q : Q (.str p.text) H := q
      cases p with
      | is x i z =>
        simp only [Tst.base, Pl.args, List.mem_cons, List.not_mem_nil, or_false, forall_eq_or_imp, forall_eq] at hl
        have m1 := s26 hl.1
        have m2 := s26 hl.2.1
        have m3 := s26 hl.2.2
        refine ⟨_, rfl, rfl, _, rfl, iteDf (vs_ne (show ("is" : Str) ≠ "not" by decide +kernel)) ⟨_, rfl, rfl, _, rfl, iteDt rfl ?_⟩⟩
        rw [← tx_is] at q
        exact ⟨_, rfl, b, _, 1, _, rfl, rfl, hb, rfl, _, _, rfl, rfl, up (sh1 m1), up (sh1 l1), _, rfl, b, _, 2, _, rfl, rfl, hb, rfl, _, _, rfl, rfl, up (shA (sh1 m1) l1), up (sh1 m2), _, _, rfl, rfl, up (shA (shA (sh1 m1) l1) m2), up (sh1 l2), _, rfl, b, _, 3, _, rfl, rfl, hb, rfl, _, _, rfl, rfl, up (shA (shA (shA (sh1 m1) l1) m2) l2), up (sh1 m3), by simp only [s_assoc]; exact q⟩
      | equal x i z j =>
        simp only [Tst.base, Pl.args, List.mem_cons, List.not_mem_nil, or_false, forall_eq_or_imp, forall_eq] at hl
        have m1 := s26 hl.1
        have m2 := s26 hl.2.1
        have m3 := s26 hl.2.2.1
        have m4 := s26 hl.2.2.2
        refine ⟨_, rfl, rfl, _, rfl, iteDf (vs_ne (show ("equal" : Str) ≠ "not" by decide +kernel)) ⟨_, rfl, rfl, _, rfl, iteDf (vs_ne (show ("equal" : Str) ≠ "is" by decide +kernel)) ⟨_, rfl, rfl, _, rfl, iteDt rfl ?_⟩⟩⟩
        rw [← tx_equal] at q
        exact ⟨_, rfl, b, _, 1, _, rfl, rfl, hb, rfl, _, _, rfl, rfl, up (sh1 m1), up (sh1 l1), _, rfl, b, _, 2, _, rfl, rfl, hb, rfl, _, _, rfl, rfl, up (shA (sh1 m1) l1), up (sh1 m2), _, _, rfl, rfl, up (shA (shA (sh1 m1) l1) m2), up (sh1 l3), _, rfl, b, _, 3, _, rfl, rfl, hb, rfl, _, _, rfl, rfl, up (shA (shA (shA (sh1 m1) l1) m2) l3), up (sh1 m3), _, _, rfl, rfl, up (shA (shA (shA (shA (sh1 m1) l1) m2) l3) m3), up (sh1 l1), _, rfl, b, _, 4, _, rfl, rfl, hb, rfl, _, _, rfl, rfl, up (shA (shA (shA (shA (shA (sh1 m1) l1) m2) l3) m3) l1), up (sh1 m4), _, _, rfl, rfl, up (shA (shA (shA (shA (shA (shA (sh1 m1) l1) m2) l3) m3) l1) m4), up (sh1 l4), by simp only [s_assoc]; exact q⟩
      | empty x i =>
        simp only [Tst.base, Pl.args, List.mem_cons, List.not_mem_nil, or_false, forall_eq_or_imp, forall_eq] at hl
        have m1 := s26 hl.1
        have m2 := s26 hl.2
        refine ⟨_, rfl, rfl, _, rfl, iteDf (vs_ne (show ("empty" : Str) ≠ "not" by decide +kernel)) ⟨_, rfl, rfl, _, rfl, iteDf (vs_ne (show ("empty" : Str) ≠ "is" by decide +kernel)) ⟨_, rfl, rfl, _, rfl, iteDf (vs_ne (show ("empty" : Str) ≠ "equal" by decide +kernel)) ⟨_, rfl, rfl, _, rfl, iteDt rfl ?_⟩⟩⟩⟩
        rw [← tx_empty] at q
        exact ⟨_, rfl, b, _, 1, _, rfl, rfl, hb, rfl, _, _, rfl, rfl, up (sh1 m1), up (sh1 l1), _, rfl, b, _, 2, _, rfl, rfl, hb, rfl, _, _, rfl, rfl, up (shA (sh1 m1) l1), up (sh1 m2), _, _, rfl, rfl, up (shA (shA (sh1 m1) l1) m2), up (sh1 l5), by simp only [s_assoc]; exact q⟩
      | inside x i =>
        simp only [Tst.base, Pl.args, List.mem_cons, List.not_mem_nil, or_false, forall_eq_or_imp, forall_eq] at hl
        have m1 := s26 hl.1
        have m2 := s26 hl.2
        refine ⟨_, rfl, rfl, _, rfl, iteDf (vs_ne (show ("inside" : Str) ≠ "not" by decide +kernel)) ⟨_, rfl, rfl, _, rfl, iteDf (vs_ne (show ("inside" : Str) ≠ "is" by decide +kernel)) ⟨_, rfl, rfl, _, rfl, iteDf (vs_ne (show ("inside" : Str) ≠ "equal" by decide +kernel)) ⟨_, rfl, rfl, _, rfl, iteDf (vs_ne (show ("inside" : Str) ≠ "empty" by decide +kernel)) ?_⟩⟩⟩⟩
        rw [← tx_inside] at q
        refine ⟨_, rfl, b, _, 1, _, rfl, rfl, hb, rfl, _, rfl, rfl, _, rfl, iteDt rfl ⟨_, _, rfl, rfl, up (sh1 m1), up (sh1 l6), _, rfl, b, _, 2, _, rfl, rfl, hb, rfl, _, _, rfl, rfl, up (shA (sh1 m1) l6), up (sh1 m2), ?_⟩⟩
        simp only [s_assoc]
        exact q
      | «at» i j =>
        simp only [Tst.base, Pl.args, List.mem_cons, List.not_mem_nil, or_false, forall_eq_or_imp, forall_eq] at hl
        have m1 := s26 hl.1
        have m2 := s26 hl.2
        refine ⟨_, rfl, rfl, _, rfl, iteDf (vs_ne (show ("at" : Str) ≠ "not" by decide +kernel)) ⟨_, rfl, rfl, _, rfl, iteDf (vs_ne (show ("at" : Str) ≠ "is" by decide +kernel)) ⟨_, rfl, rfl, _, rfl, iteDf (vs_ne (show ("at" : Str) ≠ "equal" by decide +kernel)) ⟨_, rfl, rfl, _, rfl, iteDf (vs_ne (show ("at" : Str) ≠ "empty" by decide +kernel)) ?_⟩⟩⟩⟩
        rw [← tx_at] at q
        refine ⟨_, rfl, b, _, 1, _, rfl, rfl, hb, rfl, _, rfl, rfl, _, rfl, iteDf (vs_ne (show ("at" : Str) ≠ "inside" by decide +kernel)) ⟨_, _, rfl, rfl, up (sh1 m1), up (sh1 l7), _, rfl, b, _, 2, _, rfl, rfl, hb, rfl, _, _, rfl, rfl, up (shA (sh1 m1) l7), up (sh1 m2), ?_⟩⟩
        simp only [s_assoc]
        exact q
  | succ n ih =>
    refine Has.ok (d := d_law_test_text) (T.has 68 70 rfl rfl rfl rfl rfl) sc_law_test_text (fun _ _ _ _ _ _ us hl => match us, hl with | [_], _ => rfl) (by rintro _ _ _ _ ⟨_, _, rfl, _⟩; rfl) (fun f cdv A outer s H vs Q E hRm h => ?_)
    obtain ⟨t, v, rfl, hv, hf, hn, q⟩ := h
    refine ⟨_, (pss_cons (ps_set (i := 1) sc_law_test_text.nd rfl (.inl rfl) (pe_ix ixT (pv 0) pe_int (fun _ _ => rfl)))
    (pss_cons (ps_if (pt_cmpR op_eq (pv 1) pe_str (nomark _)) (pss_one (ps_ret (pe_op op_as pe_str (pe_c ih hRm (by rfl) (pa_cons (pe_ix ixT (pv 0) pe_int (fun _ _ => rfl)) pa_nil))))) pss_nil)
    (pss_cons (ps_if (pt_cmpR op_eq (pv 1) pe_str (nomark _)) (pss_one (ps_ret (pe_op op_as (pe_op op_as (pe_op op_as (pe_op op_as (pe_ix ixT (pv 0) pe_int (fun _ _ => rfl)) pe_str) (pe_ix ixT (pv 0) pe_int (fun _ _ => rfl))) pe_str) (pe_ix ixT (pv 0) pe_int (fun _ _ => rfl))))) pss_nil)
    (pss_cons (ps_if (pt_cmpR op_eq (pv 1) pe_str (nomark _)) (pss_one (ps_ret (pe_op op_as (pe_op op_as (pe_op op_as (pe_op op_as (pe_op op_as (pe_op op_as (pe_op op_as (pe_ix ixT (pv 0) pe_int (fun _ _ => rfl)) pe_str) (pe_ix ixT (pv 0) pe_int (fun _ _ => rfl))) pe_str) (pe_ix ixT (pv 0) pe_int (fun _ _ => rfl))) pe_str) (pe_ix ixT (pv 0) pe_int (fun _ _ => rfl))) pe_str))) pss_nil)
    (pss_cons (ps_if (pt_cmpR op_eq (pv 1) pe_str (nomark _)) (pss_one (ps_ret (pe_op op_as (pe_op op_as (pe_op op_as (pe_ix ixT (pv 0) pe_int (fun _ _ => rfl)) pe_str) (pe_ix ixT (pv 0) pe_int (fun _ _ => rfl))) pe_str))) pss_nil)
    (pss_one (ps_ret (pe_op op_as (pe_op op_as (pe_ix ixT (pv 0) pe_int (fun _ _ => rfl)) (pe_ifExp (pt_cmpR op_eq (pv 1) pe_str (nomark _)) pe_str pe_str)) (pe_ix ixT (pv 0) pe_int (fun _ _ => rfl)))))))))), ?_⟩
    cases t with
    | no t =>
      obtain ⟨a, u, rfl, ha, hu⟩ := Rp.no hv
      have hft := Tst.fit_no hf
      have hl := Tst.text_len hft
      refine ⟨_, rfl, a, _, 0, _, rfl, rfl, ha, rfl, ?_⟩
      refine ⟨_, rfl, rfl, _, rfl, iteDt rfl ?_⟩
      refine ⟨_, rfl, a, _, 1, _, rfl, rfl, ha, rfl, t, u, rfl, hu, hft, Nat.le_of_succ_le_succ hn, _, _, rfl, rfl, up (sh1 l8), by omega, ?_⟩
      rw [no_text] at q
      exact q
    | pl p =>
      obtain ⟨b, rfl, hb⟩ := Rp.ws hv
      have hl := Parts.lens hf.1
      refine ⟨_, rfl, b, _, 0, _, rfl, rfl, (by rw [p.ws_eq] at hb; exact hb), rfl, ?_⟩
      have q : Q (.str p.text) H := q
      cases p with
      | is x i z =>
        simp only [Tst.base, Pl.args, List.mem_cons, List.not_mem_nil, or_false, forall_eq_or_imp, forall_eq] at hl
        have m1 := s26 hl.1
        have m2 := s26 hl.2.1
        have m3 := s26 hl.2.2
        refine ⟨_, rfl, rfl, _, rfl, iteDf (vs_ne (show ("is" : Str) ≠ "not" by decide +kernel)) ⟨_, rfl, rfl, _, rfl, iteDt rfl ?_⟩⟩
        rw [← tx_is] at q
        exact ⟨_, rfl, b, _, 1, _, rfl, rfl, hb, rfl, _, _, rfl, rfl, up (sh1 m1), up (sh1 l1), _, rfl, b, _, 2, _, rfl, rfl, hb, rfl, _, _, rfl, rfl, up (shA (sh1 m1) l1), up (sh1 m2), _, _, rfl, rfl, up (shA (shA (sh1 m1) l1) m2), up (sh1 l2), _, rfl, b, _, 3, _, rfl, rfl, hb, rfl, _, _, rfl, rfl, up (shA (shA (shA (sh1 m1) l1) m2) l2), up (sh1 m3), by simp only [s_assoc]; exact q⟩
      | equal x i z j =>
        simp only [Tst.base, Pl.args, List.mem_cons, List.not_mem_nil, or_false, forall_eq_or_imp, forall_eq] at hl
        have m1 := s26 hl.1
        have m2 := s26 hl.2.1
        have m3 := s26 hl.2.2.1
        have m4 := s26 hl.2.2.2
        refine ⟨_, rfl, rfl, _, rfl, iteDf (vs_ne (show ("equal" : Str) ≠ "not" by decide +kernel)) ⟨_, rfl, rfl, _, rfl, iteDf (vs_ne (show ("equal" : Str) ≠ "is" by decide +kernel)) ⟨_, rfl, rfl, _, rfl, iteDt rfl ?_⟩⟩⟩
        rw [← tx_equal] at q
        exact ⟨_, rfl, b, _, 1, _, rfl, rfl, hb, rfl, _, _, rfl, rfl, up (sh1 m1), up (sh1 l1), _, rfl, b, _, 2, _, rfl, rfl, hb, rfl, _, _, rfl, rfl, up (shA (sh1 m1) l1), up (sh1 m2), _, _, rfl, rfl, up (shA (shA (sh1 m1) l1) m2), up (sh1 l3), _, rfl, b, _, 3, _, rfl, rfl, hb, rfl, _, _, rfl, rfl, up (shA (shA (shA (sh1 m1) l1) m2) l3), up (sh1 m3), _, _, rfl, rfl, up (shA (shA (shA (shA (sh1 m1) l1) m2) l3) m3), up (sh1 l1), _, rfl, b, _, 4, _, rfl, rfl, hb, rfl, _, _, rfl, rfl, up (shA (shA (shA (shA (shA (sh1 m1) l1) m2) l3) m3) l1), up (sh1 m4), _, _, rfl, rfl, up (shA (shA (shA (shA (shA (shA (sh1 m1) l1) m2) l3) m3) l1) m4), up (sh1 l4), by simp only [s_assoc]; exact q⟩
      | empty x i =>
        simp only [Tst.base, Pl.args, List.mem_cons, List.not_mem_nil, or_false, forall_eq_or_imp, forall_eq] at hl
        have m1 := s26 hl.1
        have m2 := s26 hl.2
        refine ⟨_, rfl, rfl, _, rfl, iteDf (vs_ne (show ("empty" : Str) ≠ "not" by decide +kernel)) ⟨_, rfl, rfl, _, rfl, iteDf (vs_ne (show ("empty" : Str) ≠ "is" by decide +kernel)) ⟨_, rfl, rfl, _, rfl, iteDf (vs_ne (show ("empty" : Str) ≠ "equal" by decide +kernel)) ⟨_, rfl, rfl, _, rfl, iteDt rfl ?_⟩⟩⟩⟩
        rw [← tx_empty] at q
        exact ⟨_, rfl, b, _, 1, _, rfl, rfl, hb, rfl, _, _, rfl, rfl, up (sh1 m1), up (sh1 l1), _, rfl, b, _, 2, _, rfl, rfl, hb, rfl, _, _, rfl, rfl, up (shA (sh1 m1) l1), up (sh1 m2), _, _, rfl, rfl, up (shA (shA (sh1 m1) l1) m2), up (sh1 l5), by simp only [s_assoc]; exact q⟩
      | inside x i =>
        simp only [Tst.base, Pl.args, List.mem_cons, List.not_mem_nil, or_false, forall_eq_or_imp, forall_eq] at hl
        have m1 := s26 hl.1
        have m2 := s26 hl.2
        refine ⟨_, rfl, rfl, _, rfl, iteDf (vs_ne (show ("inside" : Str) ≠ "not" by decide +kernel)) ⟨_, rfl, rfl, _, rfl, iteDf (vs_ne (show ("inside" : Str) ≠ "is" by decide +kernel)) ⟨_, rfl, rfl, _, rfl, iteDf (vs_ne (show ("inside" : Str) ≠ "equal" by decide +kernel)) ⟨_, rfl, rfl, _, rfl, iteDf (vs_ne (show ("inside" : Str) ≠ "empty" by decide +kernel)) ?_⟩⟩⟩⟩
        rw [← tx_inside] at q
        refine ⟨_, rfl, b, _, 1, _, rfl, rfl, hb, rfl, _, rfl, rfl, _, rfl, iteDt rfl ⟨_, _, rfl, rfl, up (sh1 m1), up (sh1 l6), _, rfl, b, _, 2, _, rfl, rfl, hb, rfl, _, _, rfl, rfl, up (shA (sh1 m1) l6), up (sh1 m2), ?_⟩⟩
        simp only [s_assoc]
        exact q
      | «at» i j =>
        simp only [Tst.base, Pl.args, List.mem_cons, List.not_mem_nil, or_false, forall_eq_or_imp, forall_eq] at hl
        have m1 := s26 hl.1
        have m2 := s26 hl.2
        refine ⟨_, rfl, rfl, _, rfl, iteDf (vs_ne (show ("at" : Str) ≠ "not" by decide +kernel)) ⟨_, rfl, rfl, _, rfl, iteDf (vs_ne (show ("at" : Str) ≠ "is" by decide +kernel)) ⟨_, rfl, rfl, _, rfl, iteDf (vs_ne (show ("at" : Str) ≠ "equal" by decide +kernel)) ⟨_, rfl, rfl, _, rfl, iteDf (vs_ne (show ("at" : Str) ≠ "empty" by decide +kernel)) ?_⟩⟩⟩⟩
        rw [← tx_at] at q
        refine ⟨_, rfl, b, _, 1, _, rfl, rfl, hb, rfl, _, rfl, rfl, _, rfl, iteDf (vs_ne (show ("at" : Str) ≠ "inside" by decide +kernel)) ⟨_, _, rfl, rfl, up (sh1 m1), up (sh1 l7), _, rfl, b, _, 2, _, rfl, rfl, hb, rfl, _, _, rfl, rfl, up (shA (sh1 m1) l7), up (sh1 m2), ?_⟩⟩
        simp only [s_assoc]
        exact q
end
end NP
/-! NPRulesB -/
namespace NP
open PySem PySem.Spec PyProof.Rows L2
/-! ### enumerate of a list or a tuple, from any start; zip of two texts -/
/-- what is walked by a place-wise iterator at it: a list or a tuple, told by src -/
structure Src (P : Program) (w : World) (K : PySem.W.Frag) (it : Addr) (src : Hp → List V → Prop) (T : Nat → Heap → Prop) : Prop where
  obj : ∀ i h, T i h → ∃ o, h.get? it = some o ∧ ∀ v, o.data ≠ .cell v
  keep : ∀ i h h', T i h → (∀ o, h.get? it = some o → h'.get? it = some o) → T i h'
  draw : ∀ (X : Cx), X.prog = P → X.w = w → X.K = K → X.calm = true → ∀ (pins : List (Addr × Obj)) (s : Shared) (σ : L2.St) (H : Hp) (xs : List V) (e : Addr) (i : Nat), L2.Inv X pins σ H s → src H xs → T i s.heap → e ≠ it →
    (∃ o, s.heap.get? e = some o ∧ o.cls = .type "enumerate") → ∃ (its : List Value) (fp : List Addr) (S : Nat → Heap → Prop), Vals xs its ∧ e ∉ fp ∧ it ∈ fp ∧ Draws P w X.A.in1 it fp its.length (fun i v => its[i]? = some v) S ∧ S i s.heap ∧ ∀ j h, S j h → T j h
  inj : ∀ (X : Cx), X.K = K → X.w = w → X.prog = P → ∀ (pins : List (Addr × Obj)) (s : Shared) (σ : L2.St) (H : Hp) (xs ys : List V), L2.Inv X pins σ H s → src H xs → src H ys → xs = ys
theorem src_tup {P : Program} {w : World} {K : PySem.W.Frag} (a it : Addr) : Src P w K it (fun H xs => SqT K H a xs) (fun i h => h.IsTupleIter it a i) where
  obj := fun i h st => by
    obtain ⟨o, e, c, d⟩ := st
    exact ⟨o, e, fun v z => by rw [d] at z; cases z⟩
  keep := fun i h h' st k => by
    obtain ⟨o, e, c, d⟩ := st
    exact ⟨o, k o e, c, d⟩
  draw := by
    intro X hP hw hK hc pins s σ H xs e i I hs hT hne he
    subst hP hw hK
    obtain ⟨its, rv, ht, hz⟩ := I.tuple hs
    have hta : a ≠ it := by
      obtain ⟨o, e1, c, d⟩ := hT
      obtain ⟨o', e2, c', _⟩ := ht
      intro q
      rw [q, e1] at e2
      cases e2
      rw [c] at c'
      injection c' with c''
      exact absurd c'' (by decide)
    have hea : e ≠ a := by
      obtain ⟨o, e1, c⟩ := he
      obtain ⟨o', e2, c', _⟩ := ht
      intro q
      rw [← q, e1] at e2
      cases e2
      rw [c] at c'
      injection c' with c''
      exact absurd c'' (by decide)
    have D := Draws.tuple (prog := X.prog) (w := X.w) (A := X.A.in1) (I.ok.hd hc) it a hta its.toArray
    rw [List.size_toArray] at D
    simp only [List.getElem?_toArray] at D
    exact ⟨its, [it, a], _, rv, (by simp; exact ⟨hne, hea⟩), (by simp), D, ⟨hT, isTuple_of ht⟩, fun j h st => st.1⟩
  inj := by
    intro X hK hw hP pins s σ H xs ys I h1 h2
    subst hK
    exact I.tuple_inj h1 h2
theorem src_lst {P : Program} {w : World} {K : PySem.W.Frag} (a it : Addr) : Src P w K it (fun H xs => SqL K H a xs) (fun i h => h.IsListIter it a i) where
  obj := fun i h st => by
    obtain ⟨o, e, c, d⟩ := st
    exact ⟨o, e, fun v z => by rw [d] at z; cases z⟩
  keep := fun i h h' st k => by
    obtain ⟨o, e, c, d⟩ := st
    exact ⟨o, k o e, c, d⟩
  draw := by
    intro X hP hw hK hc pins s σ H xs e i I hs hT hne he
    subst hP hw hK
    obtain ⟨its, rv, pl, hz⟩ := I.list hs
    have ht := isList_of pl
    have hta : a ≠ it := by
      obtain ⟨o, e1, c, d⟩ := hT
      obtain ⟨o', e2, c', _⟩ := ht
      intro q
      rw [q, e1] at e2
      cases e2
      rw [c] at c'
      injection c' with c''
      exact absurd c'' (by decide)
    have hea : e ≠ a := by
      obtain ⟨o, e1, c⟩ := he
      obtain ⟨o', e2, c', _⟩ := ht
      intro q
      rw [← q, e1] at e2
      cases e2
      rw [c] at c'
      injection c' with c''
      exact absurd c'' (by decide)
    have D := Draws.list (prog := X.prog) (w := X.w) (A := X.A.in1) (I.ok.hd hc) it a hta its.toArray
    rw [List.size_toArray] at D
    simp only [List.getElem?_toArray] at D
    exact ⟨its, [it, a], _, rv, (by simp; exact ⟨hne, hea⟩), (by simp), D, ⟨hT, ht⟩, fun j h st => st.1⟩
  inj := by
    intro X hK hw hP pins s σ H xs ys I h1 h2
    subst hK
    exact I.list_inj h1 h2
/-- its turns: a new pair of the place (from k on) and the item -/
def ItE (k : Int) (src : Hp → List V → Prop) : It :=
  ⟨fun i H => ∃ (xs : List V) (x : V), src H xs ∧ xs[i]? = some x, fun i H v H' => ∃ T x, v = .ref T ∧ H T = none ∧ H' = upd H T (.tup [.int (k + (i : Nat)), x]) ∧ ∀ xs, src H xs → xs[i]? = some x, fun i H => ∃ xs : List V, src H xs ∧ xs.length = i⟩
theorem turn_enumA {P : Program} {w : World} {K : PySem.W.Frag} {elts : List Expr} {kk : Nat} {tpos : Pos} {src : Hp → List V → Prop} {T : Nat → Heap → Prop} (k : Int) (e it : Addr) (S : Src P w K it src T) :
    Turn P w K (.Tuple elts kk tpos) (ItE k src) [e, it] e (fun i h => (∃ old, IsEnum h e it (k + ((i : Nat) : Int)) old) ∧ T i h ∧ e ≠ it) where
  mem := by simp
  obj := fun i h st b hb => by
    obtain ⟨⟨old, he⟩, ht, _⟩ := st
    rcases (show b = e ∨ b = it by simpa using hb) with z | z
    · rw [z]; exact ⟨_, he, fun v q => nomatch q⟩
    · rw [z]; exact S.obj i h ht
  keep := fun i h h' st kp => let ⟨⟨old, he⟩, ht, hne⟩ := st; ⟨⟨old, kp e (by simp) _ he⟩, S.keep i h h' ht fun o q => kp it (by simp) o q, hne⟩
  item := by
    intro X hP hw hK hc i pins s σ H E I hf st hg
    obtain ⟨⟨old, he⟩, ht, hne⟩ := st
    obtain ⟨xs, x, hq, hx⟩ := hg
    obtain ⟨its, fp, Sd, rv, hef, hif, D, hS, hST⟩ := S.draw X hP hw hK hc pins s σ H xs e i I hq ht hne ⟨_, he, rfl⟩
    subst hP hw hK
    obtain ⟨u, hu, ru⟩ := rv.get hx
    have hel : e < s.heap.objs.size := Heap.lt_size he
    have hil : it < s.heap.objs.size := let ⟨_, q, _⟩ := S.obj i _ ht; Heap.lt_size q
    have hi : i < its.length := (List.getElem?_eq_some_iff.mp hu).1
    refine (GoesN.enumFrom (elts := elts) (x1 := kk) (pos := tpos) k D e hne hef hif).goes i s _ E hi ⟨⟨old, he⟩, hS⟩ fun v h' tk hY hS' hk htk => ?_
    obtain ⟨T', t, y, rfl, hT', hy, hI⟩ := hY
    have ey : y = u := Option.some.inj (hy.symm.trans hu)
    subst ey
    obtain ⟨⟨old', he'⟩, hS'⟩ := hS'
    have new : ObjOk X.prog X.w (upd H T' (.tup [.int (k + (i : Nat)), x])) h' T' (.tup [.int (k + (i : Nat)), x]) :=
      ⟨by show 2 ≤ sizeLine; decide, [.int (k + (i : Nat)) t, y], .cons ⟨_, rfl⟩ (.cons ru .nil), let ⟨o, q1, q2, q3, q4⟩ := hI; ⟨o, q1, q2, q3, q4⟩⟩
    have I1 := I.turnedNew (t' := tk) (ch := [e, it]) hk hf hT' new
    refine ⟨.ref T', _, I1, rfl, ⟨T', x, rfl, I.hok.fresh hT', rfl, fun ys hy => by rw [S.inj X rfl rfl rfl pins s σ H ys xs I hy hq]; exact hx⟩, ⟨⟨old', he'⟩, hST _ _ hS', hne⟩, fun b hb => ?_⟩
    have hb' : b < s.heap.objs.size := by
      rcases (show b = e ∨ b = it by simpa using hb) with z | z
      · rw [z]; exact hel
      · rw [z]; exact hil
    rw [upd_ne (Nat.ne_of_lt (Nat.lt_of_lt_of_le hb' hT'))]
    exact (hf b hb).1
  done := by
    intro X hP hw hK hc i pins s σ H E I hf st hg
    obtain ⟨⟨old, he⟩, ht, hne⟩ := st
    obtain ⟨xs, hq, hx⟩ := hg
    obtain ⟨its, fp, Sd, rv, hef, hif, D, hS, hST⟩ := S.draw X hP hw hK hc pins s σ H xs e i I hq ht hne ⟨_, he, rfl⟩
    subst hP hw hK
    have ei : its.length = i := rv.length.symm.trans hx
    subst ei
    exact (GoesN.enumFrom (elts := elts) (x1 := kk) (pos := tpos) k D e hne hef hif).stops s _ E ⟨⟨old, he⟩, hS⟩ fun h' tk hk _ => I.turnedL (t' := tk) hk hf
  self := fun A i s Q E st h => let ⟨⟨_, he⟩, _⟩ := st; wpAny_pyIter_enum he h
theorem walk_enumT {K : PySem.W.Frag} {a : Addr} {xs : List V} {k : Int} : Walk (ItE k fun H xs => SqT K H a xs) xs.length (fun H => SqT K H a xs) (YPair (fun i => some (.int (k + (i : Nat)))) (fun i => xs[i]?)) :=
  ⟨fun i _ hi q => ⟨xs, xs[i], q, by simp [hi]⟩, fun _ q => ⟨xs, q, rfl⟩, fun i H v H' _ q y => let ⟨T, x, e1, e2, e3, e4⟩ := y; ⟨T, _, x, e1, e2, e3, rfl, e4 xs q⟩⟩
theorem walk_enumL {K : PySem.W.Frag} {a : Addr} {xs : List V} {k : Int} : Walk (ItE k fun H xs => SqL K H a xs) xs.length (fun H => SqL K H a xs) (YPair (fun i => some (.int (k + (i : Nat)))) (fun i => xs[i]?)) :=
  ⟨fun i _ hi q => ⟨xs, xs[i], q, by simp [hi]⟩, fun _ q => ⟨xs, q, rfl⟩, fun i H v H' _ q y => let ⟨T, x, e1, e2, e3, e4⟩ := y; ⟨T, _, x, e1, e2, e3, rfl, e4 xs q⟩⟩
/-! enumerate(a tuple) -/
theorem new_enum1 {v : Value} {o : Obj} {Hh : Heap → Prop} (B : Begins v o Hh) :
    Meets (Builtin.«enumerate.__new__» ⟨[.type "enumerate", v], []⟩) (fun _ R s => Hh s.heap ∧
      R (.ok (.ret (.ref (s.heap.push o).objs.size))) { s with heap := (s.heap.push o).push { cls := .type "enumerate", data := .fields #[.none, .bool false, .ref s.heap.objs.size, rawInt 0, .none, .none] } }) :=
  .of_wp fun prog w A R s h => by
    obtain ⟨hp, g, d, tk, os⟩ := s
    obtain ⟨h1, h⟩ := h
    have below := sub_enumerate
    have first : ∀ {A' : Around} {E Q : Value → Shared → Prop}, Q (.ref hp.objs.size) ⟨hp.push o, g, d, tk, os⟩ → wpAny (model prog w) A' (pyIter v) Q E ⟨hp, g, d, tk, os⟩ := fun q =>
      B.iter prog w _ _ ⟨hp, g, d, tk, os⟩ _ h1 q
    wp_walk using first
    refine wpAny_stack_any fun _ => wpAny_pure ?_
    split
    · rename_i c _ _ _ _ _
      cases (c == Value.type "enumerate") <;> (wp_walk using first; exact ⟨_, rfl, h⟩)
    · wp_walk using first
      exact ⟨_, rfl, h⟩
theorem enum_one {prog : Program} {w : World} {A : Around} {E : Value → Shared → Prop} {s : Shared} {v : Value} {o : Obj} {Hh : Heap → Prop} {Q : Value → Shared → Prop} (B : Begins v o Hh) (h1 : Hh s.heap)
    (h : ∀ h', IsEnum h' (s.heap.objs.size + 1) s.heap.objs.size 0 .none → h'.get? s.heap.objs.size = some o → (∀ b o, s.heap.get? b = some o → h'.get? b = some o) → Q (.ref (s.heap.objs.size + 1)) { s with heap := h' }) :
    wpAny (model prog w) A (call (.type "enumerate") [v]) Q E s := by
  refine callType_new F.called_enumerate (by decide) (F.typeCall_enumerate_1 _) (F.newCall_enumerate_1 _) (fun obj => F.args_object_init_2 obj _) F.entry_enumerate_new (new_enum1 B) ⟨h1, ?_⟩
  have size1 : (s.heap.push o).objs.size = s.heap.objs.size + 1 := Heap.size_push ..
  show _ ∧ _
  rw [size1]
  have stands := Heap.get?_push_size (s.heap.push o) (o := { cls := .type "enumerate", data := .fields #[.none, .bool false, .ref s.heap.objs.size, rawInt 0, .none, .none] }) rfl
  rw [size1] at stands
  exact ⟨⟨_, stands, rfl⟩, h _ stands (Heap.get?_push_of_some _ (Heap.get?_push_size _ B.free)) fun b o x => Heap.get?_push_of_some _ (Heap.get?_push_of_some _ x)⟩
def iEnumT (K : PySem.W.Frag) (ta : TA) : TI := fun σ H R => ta σ H fun vs H1 => ∃ a xs, vs = [.ref a] ∧ SqT K H1 a xs ∧ R (ItE 0 fun H xs => SqT K H a xs) H1
theorem pi_enumT {X : Cx} {e : Expr} {ta : TA} {p pos tpos : Pos} {elts : List Expr} {kk : Nat} (hg : Gl X "enumerate") (hm : X.mg "enumerate" = none) (ha : PA X [e] ta) (hs : starEach [e] X.env = [(false, eval e X.env)] := by rfl) :
    PI X (.Tuple elts kk tpos) (.Call (.Name "enumerate" p) [e] [] pos) (iEnumT X.K ta) := by
  refine ⟨fun pins s σ H R I h => ?_⟩
  refine Call_ (ld_blt I hg hm boot_enumerate (PyProof.Rows.callWith_type1 (thn (ha.run pos pins s σ H _ I h) fun us s1 ⟨vs, H1, I1, r1, a, xs, ex, hq, q⟩ => ?_) hs rfl))
  subst ex
  cases r1 with
  | cons r rr =>
    cases rr
    cases r
    obtain ⟨its, rv, ht, hz⟩ := I1.tuple hq
    refine enum_one (begins_tuple a its.toArray) (isTuple_of ht) fun h' he' hit hk => wpAny_pyIter_enum he' ?_
    have I2 : L2.Inv X pins σ H1 { s1 with heap := h' } := I1.kept (t' := s1.toks) hk
    refine ⟨s1.heap.objs.size + 1, [s1.heap.objs.size + 1, s1.heap.objs.size], _, _, H1, rfl, I2, turn_enumA 0 (s1.heap.objs.size + 1) s1.heap.objs.size (src_tup a s1.heap.objs.size), ⟨⟨.none, by simpa using he'⟩, ⟨_, hit, rfl, rfl⟩, Nat.succ_ne_self _⟩, fun b hb => ?_, q⟩
    have hle : s1.heap.objs.size ≤ b := by
      rcases (show b = s1.heap.objs.size + 1 ∨ b = s1.heap.objs.size by simpa using hb) with z | z
      · rw [z]; exact Nat.le_add_right _ _
      · rw [z]; exact Nat.le_refl _
    exact I1.fpOk hle (I1.hok.fresh hle)
/-! enumerate(a list, start = k) -/
def iEnumS (K : PySem.W.Frag) (k : Int) (ta : TA) : TI := fun σ H R => ta σ H fun vs H1 => ∃ a xs, vs = [.ref a] ∧ SqL K H1 a xs ∧ R (ItE k fun H xs => SqL K H a xs) H1
theorem pi_enumS {X : Cx} {e : Expr} {ta : TA} {p pos tpos kp cp : Pos} {elts : List Expr} {kk j : Nat} {k : Int} (hg : Gl X "enumerate") (hm : X.mg "enumerate" = none) (ha : PA X [e] ta) (hk0 : -(2 ^ 63) ≤ k) (hk1 : k < 2 ^ 63) (hs : starEach [e] X.env = [(false, eval e X.env)] := by rfl) :
    PI X (.Tuple elts kk tpos) (.Call (.Name "enumerate" p) [e] [⟨some "start", .Constant (.int k) j cp, kp⟩] pos) (iEnumS X.K k ta) := by
  refine ⟨fun pins s σ H R I h => ?_⟩
  have hkw : PK X [⟨some "start", .Constant (.int k) j cp, kp⟩] (tCons (tC (.int k)) tNil) := pk_cons pe_int pk_nil
  refine wpAny_Call_Name_kw (ld_blt I hg hm boot_enumerate ?_)
  refine PySem.W.callWith_of (P := fun _ => True) (by rw [hs]; rfl) (fun h _ => ⟨.machine, .inr (.inl rfl), PySem.W.Looks.of_pure rfl⟩) (PyProof.Rows.evalArgs_kw2 rfl (thn (ha.run pos pins s σ H _ I h) fun us s1 ⟨vs, H1, I1, r1, a, xs, ex, hq, q⟩ => ?_) hs)
  subst ex
  cases r1 with
  | cons r rr =>
    cases rr
    cases r
    refine thn (hkw.run pos pins s1 σ H1 (fun zs H2 => zs = [.int k] ∧ H2 = H1) I1 ⟨rfl, rfl⟩) fun ws s2 ⟨zs, H2, I2, rz, ez, eh⟩ => ?_
    subst ez eh
    cases rz with
    | cons rz rzz =>
      cases rzz
      obtain ⟨t, rfl⟩ := rz
      refine ⟨trivial, ?_⟩
      obtain ⟨its, rv, pl, hz⟩ := I2.list hq
      refine enum_begins_start (t := t) (begins_list a its.toArray) (isList_of pl) hk0 hk1 fun h' he' hit _ hk => wpAny_pyIter_enum he' ?_
      have I3 : L2.Inv X pins σ H2 { s2 with heap := h' } := I2.kept (t' := s2.toks) hk
      refine ⟨s2.heap.objs.size + 1, [s2.heap.objs.size + 1, s2.heap.objs.size], _, _, H2, rfl, I3, turn_enumA k (s2.heap.objs.size + 1) s2.heap.objs.size (src_lst a s2.heap.objs.size), ⟨⟨.none, by simpa using he'⟩, ⟨_, hit, rfl, rfl⟩, Nat.succ_ne_self _⟩, fun b hb => ?_, q⟩
      have hle : s2.heap.objs.size ≤ b := by
        rcases (show b = s2.heap.objs.size + 1 ∨ b = s2.heap.objs.size by simpa using hb) with z | z
        · rw [z]; exact Nat.le_add_right _ _
        · rw [z]; exact Nat.le_refl _
      exact I2.fpOk hle (I2.hok.fresh hle)
end NP
/-! NPList -/
namespace NP
open PySem PySem.Spec PyProof.Rows L2 TL
theorem nil_or_snoc' {α : Type} (xs : List α) : xs = [] ∨ ∃ ys y, xs = ys ++ [y] := by
  rcases List.eq_nil_or_concat xs with e | ⟨ys, y, e⟩
  · exact .inl e
  · exact .inr ⟨ys, y, by rw [e, List.concat_eq_append]⟩
theorem Same.newL {H H' : Hp} (s : Same H H') {l : Addr} (h : H' l = none) : H l = none := SameX.free (S := []) (same_x s _) h (by simp)
/-- a place and what stands there: the place no longer than n -/
def Pth (H : Hp) (n : Nat) (v : V) (u : V) : Prop := ∃ (c d : Addr) (ps : List V), v = .ref c ∧ H c = some (.tup [.ref d, u]) ∧ H d = some (.tup ps) ∧ ps.length ≤ n
theorem Pth.tk {H H' : Hp} (k : TK H H') {n : Nat} {v u : V} (h : Pth H n v u) : Pth H' n v u :=
  let ⟨c, d, ps, e, h1, h2, h3⟩ := h
  ⟨c, d, ps, e, k _ _ h1, k _ _ h2, h3⟩
section
variable {P : Program} {w : World} {K : PySem.W.Frag} {mg : Str → Option Value} {base : Heap}
def sp_numbered : Sp := fun vs H Q _ => ∃ (a b : Addr) (xs ps : List V), vs = [.ref a, .ref b] ∧ H a = some (.tup xs) ∧ xs.length ≤ 1000 ∧ H b = some (.tup ps) ∧ ps.length ≤ 200000 ∧
  ∀ l ys H', Same H H' → H l = none → H' l = some (.lst ys) → All2 (fun x v => Pth H' (ps.length + 1) v x) xs ys → Q (.ref l) H'
abbrev nn_numbered : List Str := ["things", "path", "at", "thing"]
theorem sc_numbered : FnScope nn_numbered ["things", "path"] d_numbered.scope := ⟨rfl, rfl, rfl, by decide +kernel, rfl, by decide +kernel, by decide +kernel⟩
theorem ok_numbered (T : Top w K mg) : OK P w K mg base 1 "numbered" ["things", "path"] sp_numbered := by
  refine Has.ok (d := d_numbered) (T.has 53 52 rfl rfl rfl rfl rfl) sc_numbered (fun _ _ _ _ _ _ us hl => match us, hl with | [_, _], _ => rfl) (by rintro _ _ _ _ ⟨_, _, _, _, rfl, _⟩; rfl) (fun f cdv A outer s H vs Q E hRm h => ?_)
  obtain ⟨a, b, xs, ps, rfl, ha, hl, hb, hp, q⟩ := h
  refine ⟨_, (pss_one (ps_ret (pe_lc (own := [("at", 2), ("thing", 3)]) (g := gTup K 2 (gCons (gName 2) (gCons (gName 3) gNil))) rfl sc_numbered.nd (pi_enumT (by rfl) (T.free 96) (pa_cons (pv 0) pa_nil)) (blkOk_by (N := nn_numbered) (sc := d_numbered.scope) (by decide +kernel)) (fun _ _ _ _ _ => (pg_tup rfl (pgs_cons (pg_name (i := 2) sc_numbered.nd rfl (.inl rfl) (.inr rfl)) (pgs_cons (pg_name (i := 3) sc_numbered.nd rfl (.inl rfl) (.inr rfl)) pgs_nil)))) (fun _ _ _ _ _ => pts_nil) (fun _ _ _ _ _ => (pe_tup (pa_cons (pe_op catT (pv 1) (pe_tup (pa_cons (pv 2) pa_nil))) (pa_cons (pv 3) pa_nil))))))), ?_⟩
  refine ⟨_, rfl, a, xs, rfl, .of ha, fun D hD => ?_⟩
  refine lc_map walk_enumT hD (by omega) (fun H' s1 => .of (s1 _ _ ha)) (fun i y H => ∃ x, xs[i]? = some x ∧ Pth H (ps.length + 1) y x) (fun i y H H' ⟨x, h1, h2⟩ k => ⟨x, h1, h2.tk k⟩) (fun i x H1 H2 hi s1 hy C k => ?_) fun ys H1 hn s1 hD1 hr => ?_
  · obtain ⟨t, x1, x2, rfl, ht, rfl, h1, h2⟩ := hy
    have h1 : V.int (0 + (i : Nat)) = x1 := Option.some.inj h1
    subst h1
    have big : 300000 ≤ sizeLine := by decide
    have hb2 := same_upd (o := .tup [.int (0 + (i : Nat)), x2]) ht _ _ (s1 _ _ hb)
    refine ⟨t, _, rfl, .of upd_same, rfl, _, _, rfl, _, _, rfl, rfl, rfl, _, rfl, _, rfl, by show 1 ≤ sizeLine; decide, fun t2 ht2 => ?_⟩
    have hb3 := same_upd (o := .tup [.int (0 + (i : Nat))]) ht2 _ _ hb2
    refine ⟨b, t2, ps, _, rfl, rfl, hb3, upd_same, by simp; omega, fun d H5 s5 hd => ⟨_, rfl, by show 2 ≤ sizeLine; decide, fun t3 ht3 => ?_⟩⟩
    refine k _ _ ((((same_upd ht).trans (same_upd ht2)).trans s5).trans (same_upd ht3)) ⟨x2, h2, t3, d, _, rfl, upd_same, same_upd ht3 _ _ hd, by simp⟩
  · refine q D ys H1 s1 hD hD1 (All2.of hn fun i x v h1 h2 => ?_)
    obtain ⟨x', h3, h4⟩ := hr i v h2
    rw [h1] at h3
    cases h3
    exact h4
end
/-! ### tables of places -/
def KGet (K : PySem.W.Frag) (d : Addr) (z : Str) (ns : List Nat) : Prop := (ns = [] ∧ PySem.W.nsIn K d z = some none) ∨ KTup K d z (ns.map fun n => V.int (n : Nat))
theorem KGet.get {K : PySem.W.Frag} {d : Addr} {z : Str} {ns : List Nat} (h : KGet K d z ns) {t : Addr} {H : Hp} (ht : H t = some (.tup [])) :
    ∃ r : Option V, (match r with | none => PySem.W.nsIn K d z = some none | some v => ∃ u, PySem.W.nsIn K d z = some (some u) ∧ L2.RelV v u) ∧ ∃ a, r.getD (.ref t) = .ref a ∧ ∀ H', TK H H' → SqT K H' a (ns.map fun n => V.int (n : Nat)) := by
  rcases h with ⟨e, h⟩ | ⟨a, h1, h2⟩
  · subst e
    exact ⟨none, h, t, rfl, fun H' s => .of (s _ _ ht)⟩
  · exact ⟨some (.ref a), ⟨_, h1, rfl⟩, a, rfl, fun H' _ => h2 H'⟩
def Cmd.word : Cmd → Str
  | .si s => s.word
  | .re .. => "repeat"
  | .if_ .. => "if"
def Cmd.lists : Cmd → List (Nat × List Cmd)
  | .si _ => []
  | .re _ cs => [(2, cs)]
  | .if_ _ cs os => [(2, cs), (3, os)]
theorem Cmd.lists_inner (c : Cmd) : c.inner = c.lists.flatMap (·.2) := by cases c <;> simp [Cmd.inner, Cmd.lists]
theorem Rp.cmd {H : Hp} {c : Cmd} {v : V} (h : Rp H c.enc v) : ∃ (p : Addr) (us : List V), v = .ref p ∧ H p = some (.tup (.str c.word :: us)) ∧ ∀ x ∈ c.lists, ∃ (b : Addr) (zs : List V), (V.str c.word :: us)[x.1]? = some (.ref b) ∧ H b = some (.tup zs) ∧ RpL H (encs x.2) zs := by
  cases c with
  | si s =>
    have h : Rp H (encWs s.ws) v := h
    obtain ⟨a, rfl, ha⟩ := Rp.ws h
    rw [s.ws_eq] at ha
    exact ⟨a, _, rfl, ha, fun x hx => by cases hx⟩
  | re p cs =>
    obtain ⟨a, u, b, xs, rfl, ha, hu, hb, hr⟩ := Rp.rep h
    refine ⟨a, _, rfl, ha, fun x hx => ?_⟩
    rw [List.mem_singleton.mp hx]
    exact ⟨b, xs, rfl, hb, hr⟩
  | if_ t cs os =>
    obtain ⟨a, u, b, c, xs, ys, rfl, ha, hu, hb, hr, hc, hrc⟩ := Rp.ifc h
    refine ⟨a, _, rfl, ha, fun x hx => ?_⟩
    rcases List.mem_cons.mp hx with e | hx
    · rw [e]
      exact ⟨b, xs, rfl, hb, hr⟩
    · rw [List.mem_singleton.mp hx]
      exact ⟨c, ys, rfl, hc, hrc⟩
section
variable {w : World} {K : PySem.W.Frag} {mg : Str → Option Value}
theorem tab_lists (T : Top w K mg) (c : Cmd) : KGet K (He.ga K "LIST_PLACES") c.word (c.lists.map (·.1)) := by
  cases c with
  | si s =>
    refine .inl ⟨rfl, ?_⟩
    cases s with
    | set a i x => exact T.noE 13
    | copy a i b j => exact T.noE 14
    | clear a i => exact T.noE 15
    | zero i => exact T.noE 16
    | up i => exact T.noE 17
    | down i => exact T.noE 18
    | same i j => exact T.noE 19
    | go p => exact T.noE 20
    | choose pl a i ls => exact T.noE 21
    | wins pl => exact T.noE 22
  | re p cs => exact .inr (T.tupE 16)
  | if_ t cs os => exact .inr (T.tupE 15)
end
/-- a command and its place -/
def PC (H : Hp) (n : Nat) (c : Cmd) (y : V) : Prop := ∃ u, Pth H n y u ∧ Rp H c.enc u
theorem PC.tk {H H' : Hp} (k : TK H H') {n : Nat} {c : Cmd} {v : V} (h : PC H n c v) : PC H' n c v :=
  let ⟨u, h1, h2⟩ := h
  ⟨u, h1.tk k, h2.tk k⟩
theorem Pth.le {H : Hp} {n m : Nat} {v u : V} (h : Pth H n v u) (k : n ≤ m) : Pth H m v u :=
  let ⟨c, d, ps, e, h1, h2, h3⟩ := h
  ⟨c, d, ps, e, h1, h2, Nat.le_trans h3 k⟩
def RpC (H : Hp) (c : Cmd) (y : V) : Prop := PC H (2000 - 2 * c.cnt) c y
theorem RpC.tk {H H' : Hp} (k : TK H H') {c : Cmd} {v : V} (h : RpC H c v) : RpC H' c v := PC.tk k h
theorem All2.tkC {H H' : Hp} (k : TK H H') {as : List Cmd} {xs : List V} (h : All2 (RpC H) as xs) : All2 (RpC H') as xs := h.mono fun _ _ r => r.tk k
theorem All2.comp {H : Hp} {n : Nat} : ∀ {ds : List Cmd} {zs ys : List V}, RpL H (encs ds) zs → All2 (fun x v => Pth H n v x) zs ys → All2 (PC H n) ds ys
  | [], _, _, h, r => by cases h; exact r
  | d :: ds, _, _, ⟨v, vs, e, h, t⟩, r => by
    subst e
    obtain ⟨y, ys, e, h1, h2⟩ := r
    exact ⟨y, ys, e, ⟨v, h1, h⟩, All2.comp t h2⟩
theorem All2.upC {H : Hp} {n : Nat} {ds : List Cmd} {ys : List V} (h : All2 (PC H n) ds ys) (k : ∀ d ∈ ds, n ≤ 2000 - 2 * d.cnt) : All2 (RpC H) ds ys := by
  induction ds generalizing ys with
  | nil => exact h
  | cons d ds ih =>
    obtain ⟨y, r, e, ⟨u, h1, h2⟩, t⟩ := h
    exact ⟨y, r, e, ⟨u, h1.le (k d (List.mem_cons_self ..)), h2⟩, ih t fun x hx => k x (List.mem_cons_of_mem _ hx)⟩
theorem cnt_le_mem : ∀ {cs : List Cmd} {c : Cmd}, c ∈ cs → c.cnt ≤ cnts cs
  | d :: cs, c, h => by
    show c.cnt ≤ d.cnt + cnts cs
    rcases List.mem_cons.mp h with e | h
    · rw [e]; exact Nat.le_add_right _ _
    · have := cnt_le_mem h
      omega
/-- each is a command of that sort -/
def GoodC (H : Hp) (Pr : Cmd → Prop) (ys : List V) : Prop := ∀ y ∈ ys, ∃ c, Pr c ∧ c.cnt ≤ 900 ∧ PC H 2000 c y
theorem GoodC.tk {H H' : Hp} (k : TK H H') {Pr : Cmd → Prop} {ys : List V} (h : GoodC H Pr ys) : GoodC H' Pr ys := fun y hy =>
  let ⟨c, h1, h2, h3⟩ := h y hy
  ⟨c, h1, h2, h3.tk k⟩
section
variable {P : Program} {w : World} {K : PySem.W.Frag} {mg : Str → Option Value} {base : Heap}
def sp_commands_in : Sp := fun vs H Q _ => ∃ (cs : List Cmd) (a b : Addr) (xs ps : List V) (Pr : Cmd → Prop), vs = [.ref a, .ref b] ∧ H a = some (.tup xs) ∧ RpL H (encs cs) xs ∧ H b = some (.tup ps) ∧ ps.length ≤ 10 ∧ cnts cs ≤ 900 ∧ (∀ c, Pr c → ∀ d ∈ c.inner, Pr d) ∧ (∀ c ∈ cs, Pr c) ∧
  ∀ l ys H', Same H H' → H l = none → H' l = some (.lst ys) → GoodC H' Pr ys → ys.length ≤ 900 → Q (.ref l) H'
abbrev nn_commands_in : List Str := ["commands", "path", "found", "waiting", "place", "command", "inner", "at"]
theorem sc_commands_in : FnScope nn_commands_in ["commands", "path"] d_commands_in.scope := ⟨rfl, rfl, rfl, by decide +kernel, rfl, by decide +kernel, by decide +kernel⟩
theorem ok_commands_in (T : Top w K mg) : OK P w K mg base 2 "commands_in" ["commands", "path"] sp_commands_in := by
  refine Has.ok (d := d_commands_in) (T.has 54 53 rfl rfl rfl rfl rfl) sc_commands_in (fun _ _ _ _ _ _ us hl => match us, hl with | [_, _], _ => rfl) (by rintro _ _ _ _ ⟨_, _, _, _, _, _, rfl, _⟩; rfl) (fun f cdv A outer s H vs Q E hRm h => ?_)
  obtain ⟨cs, a, b, xs, ps, Pr, rfl, ha, hr, hb, hp, hc, hin, hcs, q⟩ := h
  obtain ⟨es, n, kd_LIST_PLACES⟩ := T.tab 3
  refine ⟨_, (pss_cons (ps_set (i := 2) sc_commands_in.nd rfl (.inl rfl) (pe_lst pa_nil))
    (pss_cons (ps_set (i := 3) sc_commands_in.nd rfl (.inl rfl) (pe_lstRev rfl (by rfl) (T.free 98) (by rfl) (T.free 95) (pe_c (ok_numbered T) (hRm.mono (by decide)) (by rfl) (pa_cons (pv 0) (pa_cons (pv 1) pa_nil)))))
    (pss_cons (ps_while PassesOwn.never (pt_cmpR (op_neNilL hRm.units0) (pv 3) (pe_lst pa_nil) (nomark _)) (pss_cons (ps_asg (pe_bm0 PySem.F.plainAttrs_list PySem.F.slot_list_pop PySem.F.type_list_pop mt_pop (pv 3)) (pg_tup rfl (pgs_cons (pg_name (i := 4) sc_commands_in.nd rfl (.inl rfl) (.inr rfl)) (pgs_cons (pg_name (i := 5) sc_commands_in.nd rfl (.inl rfl) (.inr rfl)) pgs_nil))))
    (pss_cons (ps_expr (pe_bm PySem.F.plainAttrs_list PySem.F.slot_list_append PySem.F.type_list_append mt_append (pv 2) (pa_cons (pe_tup (pa_cons (pv 4) (pa_cons (pv 5) pa_nil))) pa_nil)))
    (pss_cons (ps_set (i := 6) sc_commands_in.nd rfl (.inl rfl) (pe_lst pa_nil))
    (pss_cons (ps_for PassesOwn.never rfl (pi_tup (pe_kget2 kd_LIST_PLACES (pe_gr (T.glo 51) rfl) (pe_ix ixT (pv 5) pe_int (fun _ _ => rfl)) (pe_tup pa_nil) ⟨rfl, rfl, rfl, rfl⟩)) (pg_name (i := 7) sc_commands_in.nd rfl (.inl rfl)) (pss_one (ps_expr (pe_bm PySem.F.plainAttrs_list PySem.F.slot_list_extend PySem.F.type_list_extend mt_extend (pv 6) (pa_cons (pe_c (ok_numbered T) (hRm.mono (by decide)) (by rfl) (pa_cons (pe_ix ixT (pv 5) (pv 7) (fun _ _ => rfl)) (pa_cons (pe_op catT (pv 4) (pe_tup (pa_cons (pv 7) pa_nil))) pa_nil))) pa_nil)))))
    (pss_one (ps_expr (pe_bm PySem.F.plainAttrs_list PySem.F.slot_list_extend PySem.F.type_list_extend mt_extend (pv 3) (pa_cons (pe_lstRev rfl (by rfl) (T.free 98) (by rfl) (T.free 95) (pv 6)) pa_nil)))))))))
    (pss_one (ps_ret (pv 2)))))), ?_⟩
  have e1 := RpL.len hr
  rw [encs_map, List.length_map] at e1
  have hcl := cnts_len cs
  have big : 10000 ≤ sizeLine := by decide
  refine ⟨by show 0 ≤ sizeLine; decide, fun F hF => ?_⟩
  have s0 : Same H (upd H F (.lst [])) := same_upd hF
  have hF0 : (upd H F (.lst [])) F = some (.lst []) := upd_same
  generalize upd H F (.lst []) = H0 at s0 hF0 ⊢
  refine ⟨_, rfl, _, rfl, a, b, xs, ps, rfl, s0 _ _ ha, by omega, s0 _ _ hb, by omega, fun l ys H1 s1 hl hl1 hall => ?_⟩
  refine ⟨l, ys, rfl, .of hl1, fun W hW => ?_⟩
  have hF1 := s1 _ _ hF0
  have hWF : W ≠ F := Ne.symm (ne_of_none hF1 hW)
  have hWH : H W = none := Same.newL (s0.trans s1) hW
  have s2 : Same H (upd H1 W (.lst ys.reverse)) := (s0.trans s1).trans (same_upd hW)
  have hall2 : All2 (RpC (upd H1 W (.lst ys.reverse))) cs.reverse ys.reverse := by
    refine (All2.upC (All2.comp (hr.same (s0.trans s1)) hall) fun d hd => ?_).rev.tkC (same_tk (same_upd hW))
    have := cnt_le_mem hd
    omega
  refine ⟨fun m σ H' => Same H H' ∧ ∃ (ws : List Cmd) (dn ys : List V) (o4 o5 o6 o7 : Option V), σ = [some (.ref a), some (.ref b), some (.ref F), some (.ref W), o4, o5, o6, o7] ∧ H' F = some (.lst dn) ∧ H' W = some (.lst ys) ∧ All2 (RpC H') ws ys ∧ GoodC H' Pr dn ∧ (∀ c ∈ ws, Pr c) ∧ cnts ws = m ∧ dn.length + m ≤ 900,
    ⟨_, s2, cs.reverse, [], ys.reverse, none, none, none, none, rfl, same_upd hW _ _ hF1, upd_same, hall2, fun y hy => (by cases hy), fun c hc => hcs c (List.mem_reverse.mp hc), rfl, ?_⟩, fun m σ H2 hpv => ?_⟩
  · have : cnts cs.reverse = cnts cs := by
      have : ∀ l : List Cmd, cnts l.reverse = cnts l := by
        intro l
        induction l with
        | nil => rfl
        | cons d l ih =>
          rw [List.reverse_cons, cnts_app, ih]
          show cnts l + (d.cnt + 0) = d.cnt + cnts l
          omega
      exact this cs
    rw [this]
    simpa using hc
  obtain ⟨s3, ws, dn, ys2, o4, o5, o6, o7, rfl, hF2, hW2, hal, hgd, hpr, hm, hm2⟩ := hpv
  refine ⟨_, rfl, by show 0 ≤ sizeLine; decide, fun t ht => ?_⟩
  have st : Same H2 (upd H2 t (.lst [])) := same_upd ht
  refine ⟨W, t, ys2, rfl, rfl, .of (st _ _ hW2), .of upd_same, _, rfl, ?_⟩
  generalize upd H2 t (.lst []) = H3 at st ⊢
  have s4 : Same H H3 := s3.trans st
  have hF3 := st _ _ hF2
  have hW3 := st _ _ hW2
  have hal3 := hal.tkC (same_tk st)
  have hgd3 := hgd.tk (same_tk st)
  rcases nil_or_snoc' ws with e | ⟨ws', c, e⟩
  · subst e
    have ey : ys2 = [] := hal3
    subst ey
    exact iteF ⟨_, rfl, q F dn H3 s4 hF hF3 hgd3 (by omega)⟩
  · subst e
    obtain ⟨ys', y, rfl, hal4, hx⟩ := hal3.snoc
    rw [isEmpty_app]
    have tk : TK H3 (upd H3 W (.lst ys')) := tk_upd fun zs z => by rw [hW3] at z; cases z
    refine iteT ⟨_, fun _ _ h => h, ?_⟩
    refine ⟨_, rfl, .inl ⟨rfl, _, .of hW3⟩, W, ys' ++ [y], y, rfl, rfl, hW3, by simp, ?_⟩
    rw [List.dropLast_concat]
    have hF4 : (upd H3 W (.lst ys')) F = some (.lst dn) := by rw [upd_ne (Ne.symm hWF)]; exact hF3
    have hW4 : (upd H3 W (.lst ys')) W = some (.lst ys') := upd_same
    have s5 : Same H (upd H3 W (.lst ys')) := Same.up s4 hWH
    have hx4 := hx.tk tk
    have hal5 := hal4.tkC tk
    have hgd4 := hgd3.tk tk
    have hpc : Pr c := hpr c (List.mem_append_right _ (List.mem_singleton.mpr rfl))
    have hpw : ∀ d ∈ ws', Pr d := fun d hd => hpr d (List.mem_append_left _ hd)
    have hm3 : cnts ws' + (c.cnt + 0) = m := by rw [← hm, cnts_app]; rfl
    have hci := c.inner_cnt
    generalize upd H3 W (.lst ys') = H4 at hF4 hW4 s5 hx4 hal5 hgd4 ⊢
    obtain ⟨u, ⟨p1, d1, pp, rfl, hp1, hd1, hpl⟩, hu⟩ := hx4
    refine ⟨p1, _, rfl, .of hp1, rfl, _, _, rfl, _, _, rfl, rfl, ?_⟩
    obtain ⟨pc, us, rfl, hpc2, hls⟩ := Rp.cmd hu
    -- found.append((place, command))
    refine ⟨_, rfl, .inl ⟨rfl, _, .of hF4⟩, _, rfl, _, rfl, by show 2 ≤ sizeLine; decide, fun t2 ht2 => ?_⟩
    have sA : Same H4 (upd H4 t2 (.tup [.ref d1, .ref pc])) := same_upd ht2
    have hF5 := sA _ _ hF4
    have hW5 := sA _ _ hW4
    have hy2 : PC (upd H4 t2 (.tup [.ref d1, .ref pc])) 2000 c (.ref t2) := ⟨.ref pc, ⟨t2, d1, pp, rfl, upd_same, sA _ _ hd1, by omega⟩, hu.same sA⟩
    have hgd5 := hgd4.tk (same_tk sA)
    have hal6 := hal5.tkC (same_tk sA)
    have s6 : Same H (upd H4 t2 (.tup [.ref d1, .ref pc])) := s5.trans sA
    have hu5 := hu.same sA
    have hpc5 := sA _ _ hpc2
    have hd5 := sA _ _ hd1
    generalize upd H4 t2 (.tup [.ref d1, .ref pc]) = H5 at hF5 hW5 hy2 hgd5 hal6 s6 hu5 hpc5 hd5 ⊢
    refine ⟨F, dn, _, rfl, rfl, hF5, by omega, ?_⟩
    have tkF : TK H5 (upd H5 F (.lst (dn ++ [.ref t2]))) := tk_upd fun zs z => by rw [hF5] at z; cases z
    have hF6 : (upd H5 F (.lst (dn ++ [.ref t2]))) F = some (.lst (dn ++ [.ref t2])) := upd_same
    have hW6 : (upd H5 F (.lst (dn ++ [.ref t2]))) W = some (.lst ys') := by rw [upd_ne hWF]; exact hW5
    have s7 : Same H (upd H5 F (.lst (dn ++ [.ref t2]))) := Same.up s6 hF
    have hgd6 : GoodC (upd H5 F (.lst (dn ++ [.ref t2]))) Pr (dn ++ [.ref t2]) := fun y hy => by
      rcases List.mem_append.mp hy with hy | hy
      · exact (hgd5.tk tkF) y hy
      · rw [List.mem_singleton.mp hy]
        exact ⟨c, hpc, by omega, hy2.tk tkF⟩
    have hal7 := hal6.tkC tkF
    have hu6 := hu5.tk tkF
    have hpc6 := tkF _ _ hpc5
    have hd6 := tkF _ _ hd5
    generalize upd H5 F (.lst (dn ++ [.ref t2])) = H6 at hF6 hW6 s7 hgd6 hal7 hu6 hpc6 hd6 ⊢
    -- inner = []
    refine ⟨by show 0 ≤ sizeLine; decide, fun I hI => ?_⟩
    have sI : Same H6 (upd H6 I (.lst [])) := same_upd hI
    have hIF : I ≠ F := Ne.symm (ne_of_none hF6 hI)
    have hIW : I ≠ W := Ne.symm (ne_of_none hW6 hI)
    have hIH : H I = none := Same.newL s7 hI
    have hI7 : (upd H6 I (.lst [])) I = some (.lst []) := upd_same
    have hF7 := sI _ _ hF6
    have hW7 := sI _ _ hW6
    have s8 : Same H (upd H6 I (.lst [])) := s7.trans sI
    have hgd7 := hgd6.tk (same_tk sI)
    have hal8 := hal7.tkC (same_tk sI)
    have hu7 := hu6.same sI
    have hpc7 := sI _ _ hpc6
    have hd7 := sI _ _ hd6
    generalize upd H6 I (.lst []) = H7 at hI7 hF7 hW7 s8 hgd7 hal8 hu7 hpc7 hd7 ⊢
    refine ⟨_, rfl, pc, _, 0, _, rfl, rfl, hpc7, rfl, by show 0 ≤ sizeLine; decide, fun t3 ht3 => ?_⟩
    have s3' : Same H7 (upd H7 t3 (.tup [])) := same_upd ht3
    obtain ⟨r, hrr, al, har, hsq⟩ := (tab_lists T c).get (t := t3) (H := upd H7 t3 (.tup [])) upd_same
    have hI8 := s3' _ _ hI7
    have hF8 := s3' _ _ hF7
    have hW8 := s3' _ _ hW7
    have s9 : Same H (upd H7 t3 (.tup [])) := s8.trans s3'
    have hgd8 := hgd7.tk (same_tk s3')
    have hal9 := hal8.tkC (same_tk s3')
    have hu8 := hu7.same s3'
    have hpc8 := s3' _ _ hpc7
    have hd8 := s3' _ _ hd7
    generalize upd H7 t3 (.tup []) = H8 at hsq hI8 hF8 hW8 s9 hgd8 hal9 hu8 hpc8 hd8 ⊢
    refine ⟨_, r, rfl, hrr, al, har, ⟨_, hsq _ (.refl _)⟩, ?_⟩
    refine for_it walk_tup (fun i σ H' => Same H H' ∧ TK H8 H' ∧ ∃ (o7 : Option V) (zs : List V), σ = [some (.ref a), some (.ref b), some (.ref F), some (.ref W), some (.ref d1), some (.ref pc), some (.ref I), o7] ∧ H' F = some (.lst (dn ++ [.ref t2])) ∧ H' W = some (.lst ys') ∧ H' I = some (.lst zs) ∧ GoodC H' Pr (dn ++ [.ref t2]) ∧ All2 (RpC H') ws' ys' ∧ All2 (RpC H') ((c.lists.take i).flatMap (·.2)) zs) ?_ (fun i σ H' _ hp => hsq _ hp.2.1) (fun i x σ H9 H10 hi hp hy => ?_) (fun σ H9 hp => ?_)
    · exact ⟨s9, .refl _, o7, [], rfl, hF8, hW8, hI8, hgd8, hal9, rfl⟩
    · obtain ⟨s10, k10, o7', zs, rfl, hF9, hW9, hI9, hgd9, hal10, hz9⟩ := hp
      obtain ⟨rfl, hx⟩ := hy
      rw [List.getElem?_map, List.getElem?_map] at hx
      obtain ⟨n, h1, rfl⟩ := Option.map_eq_some_iff.mp hx
      obtain ⟨⟨n', ds⟩, h2, e2⟩ := Option.map_eq_some_iff.mp h1
      have e2 : n' = n := e2
      subst e2
      have hmem := List.mem_of_getElem? h2
      have hu10 := hu8.tk k10
      have hpc10 := k10 _ _ hpc8
      have hd10 := k10 _ _ hd8
      obtain ⟨pc', us', epc, hpc', hls'⟩ := Rp.cmd hu10
      cases epc
      rw [hpc10] at hpc'
      have eus : us = us' := by injection hpc' with z; injection z with z; exact (List.cons.inj z).2
      subst eus
      obtain ⟨bb, zz, hn, hbb, hrz⟩ := hls' _ hmem
      have hdsub : ∀ d ∈ ds, d ∈ c.inner := fun d hd => by rw [c.lists_inner]; exact List.mem_flatMap.mpr ⟨_, hmem, hd⟩
      have hcds : cnts ds ≤ cnts c.inner := by
        cases c with
        | si s => cases hmem
        | re p cs => rw [show ds = cs from congrArg (·.2) (List.mem_singleton.mp hmem)]; exact Nat.le_refl _
        | if_ t cs os =>
          have e : cnts (Cmd.if_ t cs os).inner = cnts cs + cnts os := cnts_app
          rw [e]
          rcases List.mem_cons.mp hmem with q | q
          · rw [show ds = cs from congrArg (·.2) q]; exact Nat.le_add_right _ _
          · rw [show ds = os from congrArg (·.2) (List.mem_singleton.mp q)]; exact Nat.le_add_left _ _
      have hlz : zz.length = ds.length := by
        have := RpL.len hrz
        rwa [encs_map, List.length_map] at this
      have hdl := cnts_len ds
      refine ⟨_, rfl, .inl ⟨rfl, _, .of hI9⟩, _, rfl, _, rfl, pc, _, n', _, rfl, rfl, hpc10, hn, _, rfl, _, rfl, by show 1 ≤ sizeLine; decide, fun t4 ht4 => ?_⟩
      have s4' : Same H10 (upd H10 t4 (.tup [.int (n' : Nat)])) := same_upd ht4
      refine ⟨d1, t4, pp, _, rfl, rfl, s4' _ _ hd10, upd_same, by simp; omega, fun pn H11 s11 hpn => ?_⟩
      have s12 : Same H10 H11 := s4'.trans s11
      refine ⟨bb, pn, zz, _, rfl, s12 _ _ hbb, by omega, hpn, by simp; omega, fun ln yn H12 s13 hln hln2 hyn => ?_⟩
      have s14 : Same H10 H12 := s12.trans s13
      have hIz := s14 _ _ hI9
      have e5 := hyn.len
      have e6 := hz9.len
      have hft : ((c.lists.take i).flatMap (·.2)).length ≤ 2000 := by
        cases c with
        | si s => cases hmem
        | re p cs =>
          have := cnts_len cs
          have hh : cnts (Cmd.re p cs).inner = cnts cs := rfl
          match i with
          | 0 => simp
          | i + 1 => simp [Cmd.lists] ; omega
        | if_ t cs os =>
          have h1 := cnts_len cs
          have h2 := cnts_len os
          have hh : cnts (Cmd.if_ t cs os).inner = cnts cs + cnts os := cnts_app
          match i with
          | 0 => simp
          | 1 => simp [Cmd.lists] ; omega
          | i + 2 => simp [Cmd.lists] ; omega
      have hyc : All2 (RpC H12) ds yn := All2.upC (All2.comp (hrz.same (s12.trans s13)) hyn) fun d hd => by
        have := cnt_le_mem hd
        have e : (pp ++ [V.int (n' : Nat)]).length + 1 = pp.length + 2 := by simp
        rw [e]
        omega
      refine ⟨I, ln, zs, yn, rfl, rfl, hIz, hln2, by omega, ?_⟩
      have tkI : TK H12 (upd H12 I (.lst (zs ++ yn))) := tk_upd fun q z => by rw [hIz] at z; cases z
      have tk14 : TK H10 (upd H12 I (.lst (zs ++ yn))) := (same_tk s14).trans tkI
      refine ⟨Same.up (s10.trans s14) hIH, k10.trans tk14, some (.int (n' : Nat)), zs ++ yn, rfl, ?_, ?_, upd_same, hgd9.tk tk14, hal10.tkC tk14, ?_⟩
      · rw [upd_ne (Ne.symm hIF)]; exact s14 _ _ hF9
      · rw [upd_ne (Ne.symm hIW)]; exact s14 _ _ hW9
      · rw [List.take_add_one, h2, List.flatMap_append]
        have : ([(n', ds)] : List (Nat × List Cmd)).flatMap (·.2) = ds := by simp
        show All2 _ (_ ++ ([(n', ds)] : List (Nat × List Cmd)).flatMap (·.2)) _
        rw [this]
        exact All2.app (hz9.tkC tk14) (hyc.tkC tkI)
    · obtain ⟨s10, k10, o7', zs, rfl, hF9, hW9, hI9, hgd9, hal10, hz9⟩ := hp
      have eall : (c.lists.take ((c.lists.map (·.1)).map fun n => V.int (n : Nat)).length).flatMap (·.2) = c.inner := by
        rw [List.length_map, List.length_map, List.take_length, c.lists_inner]
      rw [eall] at hz9
      have e5 := hal10.len
      have e6 := hz9.len
      have h7 := cnts_len ws'
      have h8 := cnts_len c.inner
      refine ⟨_, rfl, .inl ⟨rfl, _, .of hW9⟩, _, rfl, I, zs, rfl, .of hI9, fun R hR => ?_⟩
      have sR : Same H9 (upd H9 R (.lst zs.reverse)) := same_upd hR
      have hWR := sR _ _ hW9
      refine ⟨W, R, ys', zs.reverse, rfl, rfl, hWR, upd_same, by rw [List.length_reverse]; omega, ?_⟩
      have tkW : TK (upd H9 R (.lst zs.reverse)) (upd (upd H9 R (.lst zs.reverse)) W (.lst (ys' ++ zs.reverse))) := tk_upd fun q z => by rw [hWR] at z; cases z
      have tkA := (same_tk sR).trans tkW
      have hcr : cnts c.inner.reverse = cnts c.inner := by
        have : ∀ l : List Cmd, cnts l.reverse = cnts l := by
          intro l
          induction l with
          | nil => rfl
          | cons d l ih =>
            rw [List.reverse_cons, cnts_app, ih]
            show cnts l + (d.cnt + 0) = d.cnt + cnts l
            omega
        exact this _
      refine ⟨cnts (ws' ++ c.inner.reverse), by rw [cnts_app, hcr]; omega, Same.up (s10.trans sR) hWH, ws' ++ c.inner.reverse, dn ++ [.ref t2], ys' ++ zs.reverse, _, _, _, _, rfl, ?_, upd_same, ?_, hgd9.tk tkA, ?_, rfl, ?_⟩
      · rw [upd_ne (Ne.symm hWF)]; exact sR _ _ hF9
      · exact All2.app (hal10.tkC tkA) (hz9.rev.tkC tkA)
      · intro d hd
        rcases List.mem_append.mp hd with hd | hd
        · exact hpw d hd
        · exact hin c hpc d (List.mem_reverse.mp hd)
      · rw [cnts_app, hcr, List.length_append, List.length_singleton]
        omega
end
end NP
/-! NPLaw3 -/
namespace NP
open PySem PySem.Spec PyProof.Rows L2 TL
def udd : List Str := ["up", "down", "do"]
/-- a command's own line -/
def Cmd.ln : Cmd → Ln
  | .si s => .si s
  | .re p _ => .re p
  | .if_ t _ _ => .if_ t
section
variable {P : Program} {w : World} {K : PySem.W.Frag} {mg : Str → Option Value} {base : Heap}
def sp_law_command_text : Sp := fun vs H Q _ => ∃ (c : Cmd) (v : V), vs = [v] ∧ Rp H c.enc v ∧ c.fit ∧ ∀ H', Same H H' → Q (.str c.ln.text) H'
abbrev nn_law_command_text : List Str := ["_law_command", "_law_word"]
theorem sc_law_command_text : FnScope nn_law_command_text ["_law_command"] d_law_command_text.scope := ⟨rfl, rfl, rfl, by decide +kernel, rfl, by decide +kernel, by decide +kernel⟩
theorem ok_law_command_text (T : Top w K mg) : OK P w K mg base 5 "_law_command_text" ["_law_command"] sp_law_command_text := by
  refine Has.ok (d := d_law_command_text) (T.has 69 71 rfl rfl rfl rfl rfl) sc_law_command_text (fun _ _ _ _ _ _ us hl => match us, hl with | [_], _ => rfl) (by rintro _ _ _ _ ⟨_, _, rfl, _⟩; rfl) (fun f cdv A outer s H vs Q E hRm h => ?_)
  obtain ⟨c, v, rfl, hv, hf, q⟩ := h
  refine ⟨_, (pss_cons (ps_set (i := 1) sc_law_command_text.nd rfl (.inl rfl) (pe_ix ixT (pv 0) pe_int (fun _ _ => rfl)))
    (pss_cons (ps_if (pt_cmpR op_in_seq (pv 1) (pe_tup (pa_cons pe_str (pa_cons pe_str (pa_cons pe_str pa_nil)))) (by rfl)) (pss_one (ps_ret (pe_op op_as (pe_op op_as (pv 1) pe_str) (pe_ix ixT (pv 0) pe_int (fun _ _ => rfl))))) pss_nil)
    (pss_cons (ps_if (pt_cmpR op_eq (pv 1) pe_str (nomark _)) (pss_one (ps_ret (pe_op op_as (pe_ix ixT (pv 0) pe_int (fun _ _ => rfl)) pe_str))) pss_nil)
    (pss_cons (ps_if (pt_cmpR op_eq (pv 1) pe_str (nomark _)) (pss_one (ps_ret (pe_op op_as (pe_op op_as (pe_ix ixT (pv 0) pe_int (fun _ _ => rfl)) pe_str) (pe_ix ixT (pv 0) pe_int (fun _ _ => rfl))))) pss_nil)
    (pss_cons (ps_if (pt_cmpR op_eq (pv 1) pe_str (nomark _)) (pss_one (ps_ret (pe_op op_as (pe_op op_as (pe_op op_as (pe_op op_as (pe_ix ixT (pv 0) pe_int (fun _ _ => rfl)) pe_str) (pe_ix ixT (pv 0) pe_int (fun _ _ => rfl))) pe_str) (pe_ix ixT (pv 0) pe_int (fun _ _ => rfl))))) pss_nil)
    (pss_cons (ps_if (pt_cmpR op_eq (pv 1) pe_str (nomark _)) (pss_one (ps_ret (pe_op op_as (pe_op op_as (pe_op op_as (pe_op op_as (pe_op op_as (pe_op op_as (pe_op op_as (pe_ix ixT (pv 0) pe_int (fun _ _ => rfl)) pe_str) (pe_ix ixT (pv 0) pe_int (fun _ _ => rfl))) pe_str) (pe_ix ixT (pv 0) pe_int (fun _ _ => rfl))) pe_str) (pe_ix ixT (pv 0) pe_int (fun _ _ => rfl))) pe_str))) pss_nil)
    (pss_cons (ps_if (pt_cmpR op_eq (pv 1) pe_str (nomark _)) (pss_one (ps_ret (pe_op op_as (pe_op op_as (pe_op op_as (pe_ix ixT (pv 0) pe_int (fun _ _ => rfl)) pe_str) (pe_ix ixT (pv 0) pe_int (fun _ _ => rfl))) pe_str))) pss_nil)
    (pss_cons (ps_if (pt_cmpR op_eq (pv 1) pe_str (nomark _)) (pss_one (ps_ret (pe_op op_as (pe_op op_as (pe_op op_as (pe_op op_as (pe_op op_as (pe_op op_as (pe_ix ixT (pv 0) pe_int (fun _ _ => rfl)) pe_str) (pe_ix ixT (pv 0) pe_int (fun _ _ => rfl))) pe_str) (pe_ix ixT (pv 0) pe_int (fun _ _ => rfl))) pe_str) (pe_ix ixT (pv 0) pe_int (fun _ _ => rfl))))) pss_nil)
    (pss_one (ps_ret (pe_ifExp (pt_cmpR op_eq (pv 1) pe_str (nomark _)) (pe_op op_as (pe_ix ixT (pv 0) pe_int (fun _ _ => rfl)) pe_str) (pe_ifExp (pt_cmpR op_eq (pv 1) pe_str (nomark _)) (pe_op op_as pe_str (pe_c (ok_law_test_text T 3) (hRm.mono (by decide)) (by rfl) (pa_cons (pe_ix ixT (pv 0) pe_int (fun _ _ => rfl)) pa_nil))) (pe_op op_as pe_str (pe_c (ok_law_poly_text T) (hRm.mono (by decide)) (by rfl) (pa_cons (pe_ix ixT (pv 0) pe_int (fun _ _ => rfl)) pa_nil))))))))))))))), ?_⟩
  have l1 : ("[" : Str).length ≤ 500 := by decide +kernel
  have l2 : ("] = " : Str).length ≤ 500 := by decide +kernel
  have l4 : ("]" : Str).length ≤ 500 := by decide +kernel
  have l5 : ("] = empty" : Str).length ≤ 500 := by decide +kernel
  have l6 : (" = 0" : Str).length ≤ 500 := by decide +kernel
  have l7 : (" = " : Str).length ≤ 500 := by decide +kernel
  have l8 : (" chooses " : Str).length ≤ 500 := by decide +kernel
  have l9 : ("] from " : Str).length ≤ 500 := by decide +kernel
  have l10 : (" wins" : Str).length ≤ 500 := by decide +kernel
  have l11 : (" " : Str).length ≤ 500 := by decide +kernel
  have l12 : ("if " : Str).length ≤ 500 := by decide +kernel
  have l13 : ("repeat " : Str).length ≤ 500 := by decide +kernel
  have l14 : ("up" : Str).length ≤ 500 := by decide +kernel
  have l15 : ("down" : Str).length ≤ 500 := by decide +kernel
  have l16 : ("do" : Str).length ≤ 500 := by decide +kernel
  obtain ⟨b, us, rfl, hb0, hls⟩ := Rp.cmd hv
  clear hls
  refine ⟨_, rfl, b, _, 0, _, rfl, rfl, hb0, rfl, ?_⟩
  refine ⟨_, rfl, by show 3 ≤ sizeLine; decide, fun t ht => ⟨t, udd.map V.str, rfl, .inr (.of upd_same), rfl, flat_strs _, _, rfl, ?_⟩⟩
  rw [if_neg (by decide), inV_strs]
  have st : Same H (upd H t (.tup [V.str "up", .str "down", .str "do"])) := same_upd ht
  generalize upd H t (.tup [V.str "up", .str "down", .str "do"]) = H1 at st ⊢
  have hv1 := hv.same st
  have q1 := q _ st
  cases c with
  | re p cs =>
    have hw : ("repeat" : Str) ∉ udd := by decide +kernel
    obtain ⟨a, u, b2, xs, e, ha, hu, _⟩ := Rp.rep hv1
    cases e
    have tl1 : (textPoly p).length ≤ 500 := Nat.le_trans (tpoly_len hf.1) (by decide)
    refine iteDf hw ?_
    refine ⟨_, rfl, rfl, _, rfl, iteDf (vs_ne (show ("repeat" : Str) ≠ "zero" by decide +kernel)) ⟨_, rfl, rfl, _, rfl, iteDf (vs_ne (show ("repeat" : Str) ≠ "same" by decide +kernel)) ⟨_, rfl, rfl, _, rfl, iteDf (vs_ne (show ("repeat" : Str) ≠ "set" by decide +kernel)) ⟨_, rfl, rfl, _, rfl, iteDf (vs_ne (show ("repeat" : Str) ≠ "copy" by decide +kernel)) ⟨_, rfl, rfl, _, rfl, iteDf (vs_ne (show ("repeat" : Str) ≠ "clear" by decide +kernel)) ⟨_, rfl, rfl, _, rfl, iteDf (vs_ne (show ("repeat" : Str) ≠ "choose" by decide +kernel)) ?_⟩⟩⟩⟩⟩⟩
    refine ⟨_, rfl, rfl, _, rfl, iteDf (vs_ne (show ("repeat" : Str) ≠ "wins" by decide +kernel)) ⟨_, rfl, rfl, _, rfl, iteDf (vs_ne (show ("repeat" : Str) ≠ "if" by decide +kernel)) ?_⟩⟩
    refine ⟨_, rfl, b, _, 1, _, rfl, rfl, ha, rfl, p, u, rfl, hu, hf.1, fun H2 s2 => ⟨_, _, rfl, rfl, up (sh1 l13), up (sh1 tl1), ?_⟩⟩
    have q2 : Q (.str (Ln.re p).text) H2 := q _ (st.trans s2)
    rw [re_text] at q2
    exact q2
  | if_ t cs os =>
    have hw : ("if" : Str) ∉ udd := by decide +kernel
    obtain ⟨a, u, b2, c2, xs, ys, e, ha, hu, _⟩ := Rp.ifc hv1
    cases e
    have tl1 : t.text.length ≤ 500 := Nat.le_trans (Tst.text_len hf.1) (by decide)
    refine iteDf hw ?_
    refine ⟨_, rfl, rfl, _, rfl, iteDf (vs_ne (show ("if" : Str) ≠ "zero" by decide +kernel)) ⟨_, rfl, rfl, _, rfl, iteDf (vs_ne (show ("if" : Str) ≠ "same" by decide +kernel)) ⟨_, rfl, rfl, _, rfl, iteDf (vs_ne (show ("if" : Str) ≠ "set" by decide +kernel)) ⟨_, rfl, rfl, _, rfl, iteDf (vs_ne (show ("if" : Str) ≠ "copy" by decide +kernel)) ⟨_, rfl, rfl, _, rfl, iteDf (vs_ne (show ("if" : Str) ≠ "clear" by decide +kernel)) ⟨_, rfl, rfl, _, rfl, iteDf (vs_ne (show ("if" : Str) ≠ "choose" by decide +kernel)) ?_⟩⟩⟩⟩⟩⟩
    refine ⟨_, rfl, rfl, _, rfl, iteDf (vs_ne (show ("if" : Str) ≠ "wins" by decide +kernel)) ⟨_, rfl, rfl, _, rfl, iteDt rfl ?_⟩⟩
    refine ⟨_, rfl, b, _, 1, _, rfl, rfl, ha, rfl, t, u, rfl, hu, hf.1, hf.1.2, _, _, rfl, rfl, up (sh1 l12), up (sh1 tl1), ?_⟩
    have q2 : Q (.str (Ln.if_ t).text) H1 := q1
    rw [if_text] at q2
    exact q2
  | si s =>
    have hv2 : Rp H1 (encWs s.ws) (.ref b) := hv1
    obtain ⟨b', e, hb⟩ := Rp.ws hv2
    cases e
    have hl := Parts.lens (show Parts s.kinds s.args from hf)
    replace q1 : Q (.str s.text) H1 := q1
    cases s <;> simp only [Si.args, List.mem_cons, List.not_mem_nil, or_false, forall_eq_or_imp, forall_eq] at hl
    case up i =>
      have m1 := s26 hl
      refine iteDt (show ("up" : Str) ∈ udd by decide +kernel) ?_
      have q1 : Q (.str (jn ["up", i])) H1 := q1
      rw [← tx_two] at q1
      exact ⟨_, rfl, _, _, rfl, rfl, up (sh1 l14), up (sh1 l11), _, rfl, b, _, 1, _, rfl, rfl, hb, rfl, _, _, rfl, rfl, up (shA (sh1 l14) l11), up (sh1 m1), by rw [s_assoc]; exact q1⟩
    case down i =>
      have m1 := s26 hl
      refine iteDt (show ("down" : Str) ∈ udd by decide +kernel) ?_
      have q1 : Q (.str (jn ["down", i])) H1 := q1
      rw [← tx_two] at q1
      exact ⟨_, rfl, _, _, rfl, rfl, up (sh1 l15), up (sh1 l11), _, rfl, b, _, 1, _, rfl, rfl, hb, rfl, _, _, rfl, rfl, up (shA (sh1 l15) l11), up (sh1 m1), by rw [s_assoc]; exact q1⟩
    case go i =>
      have m1 := s26 hl
      refine iteDt (show ("do" : Str) ∈ udd by decide +kernel) ?_
      have q1 : Q (.str (jn ["do", i])) H1 := q1
      rw [← tx_two] at q1
      exact ⟨_, rfl, _, _, rfl, rfl, up (sh1 l16), up (sh1 l11), _, rfl, b, _, 1, _, rfl, rfl, hb, rfl, _, _, rfl, rfl, up (shA (sh1 l16) l11), up (sh1 m1), by rw [s_assoc]; exact q1⟩
    case zero i =>
      have m1 := s26 hl
      refine iteDf (show ("zero" : Str) ∉ udd by decide +kernel) ⟨_, rfl, rfl, _, rfl, iteDt rfl ?_⟩
      rw [← tx_zero] at q1
      exact ⟨_, rfl, b, _, 1, _, rfl, rfl, hb, rfl, _, _, rfl, rfl, up (sh1 m1), up (sh1 l6), q1⟩
    case same i j =>
      have m1 := s26 hl.1
      have m2 := s26 hl.2
      refine iteDf (show ("same" : Str) ∉ udd by decide +kernel) ⟨_, rfl, rfl, _, rfl, iteDf (vs_ne (show ("same" : Str) ≠ "zero" by decide +kernel)) ⟨_, rfl, rfl, _, rfl, iteDt rfl ?_⟩⟩
      rw [← tx_same] at q1
      exact ⟨_, rfl, b, _, 1, _, rfl, rfl, hb, rfl, _, _, rfl, rfl, up (sh1 m1), up (sh1 l7), _, rfl, b, _, 2, _, rfl, rfl, hb, rfl, _, _, rfl, rfl, up (shA (sh1 m1) l7), up (sh1 m2), by simp only [s_assoc]; exact q1⟩
    case set x i z =>
      have m1 := s26 hl.1
      have m2 := s26 hl.2.1
      have m3 := s26 hl.2.2
      refine iteDf (show ("set" : Str) ∉ udd by decide +kernel) ⟨_, rfl, rfl, _, rfl, iteDf (vs_ne (show ("set" : Str) ≠ "zero" by decide +kernel)) ⟨_, rfl, rfl, _, rfl, iteDf (vs_ne (show ("set" : Str) ≠ "same" by decide +kernel)) ⟨_, rfl, rfl, _, rfl, iteDt rfl ?_⟩⟩⟩
      rw [← tx_set] at q1
      exact ⟨_, rfl, b, _, 1, _, rfl, rfl, hb, rfl, _, _, rfl, rfl, up (sh1 m1), up (sh1 l1), _, rfl, b, _, 2, _, rfl, rfl, hb, rfl, _, _, rfl, rfl, up (shA (sh1 m1) l1), up (sh1 m2), _, _, rfl, rfl, up (shA (shA (sh1 m1) l1) m2), up (sh1 l2), _, rfl, b, _, 3, _, rfl, rfl, hb, rfl, _, _, rfl, rfl, up (shA (shA (shA (sh1 m1) l1) m2) l2), up (sh1 m3), by simp only [s_assoc]; exact q1⟩
    case copy x i z j =>
      have m1 := s26 hl.1
      have m2 := s26 hl.2.1
      have m3 := s26 hl.2.2.1
      have m4 := s26 hl.2.2.2
      refine iteDf (show ("copy" : Str) ∉ udd by decide +kernel) ⟨_, rfl, rfl, _, rfl, iteDf (vs_ne (show ("copy" : Str) ≠ "zero" by decide +kernel)) ⟨_, rfl, rfl, _, rfl, iteDf (vs_ne (show ("copy" : Str) ≠ "same" by decide +kernel)) ⟨_, rfl, rfl, _, rfl, iteDf (vs_ne (show ("copy" : Str) ≠ "set" by decide +kernel)) ⟨_, rfl, rfl, _, rfl, iteDt rfl ?_⟩⟩⟩⟩
      rw [← tx_copy] at q1
      exact ⟨_, rfl, b, _, 1, _, rfl, rfl, hb, rfl, _, _, rfl, rfl, up (sh1 m1), up (sh1 l1), _, rfl, b, _, 2, _, rfl, rfl, hb, rfl, _, _, rfl, rfl, up (shA (sh1 m1) l1), up (sh1 m2), _, _, rfl, rfl, up (shA (shA (sh1 m1) l1) m2), up (sh1 l2), _, rfl, b, _, 3, _, rfl, rfl, hb, rfl, _, _, rfl, rfl, up (shA (shA (shA (sh1 m1) l1) m2) l2), up (sh1 m3), _, _, rfl, rfl, up (shA (shA (shA (shA (sh1 m1) l1) m2) l2) m3), up (sh1 l1), _, rfl, b, _, 4, _, rfl, rfl, hb, rfl, _, _, rfl, rfl, up (shA (shA (shA (shA (shA (sh1 m1) l1) m2) l2) m3) l1), up (sh1 m4), _, _, rfl, rfl, up (shA (shA (shA (shA (shA (shA (sh1 m1) l1) m2) l2) m3) l1) m4), up (sh1 l4), by simp only [s_assoc]; exact q1⟩
    case clear x i =>
      have m1 := s26 hl.1
      have m2 := s26 hl.2
      refine iteDf (show ("clear" : Str) ∉ udd by decide +kernel) ⟨_, rfl, rfl, _, rfl, iteDf (vs_ne (show ("clear" : Str) ≠ "zero" by decide +kernel)) ⟨_, rfl, rfl, _, rfl, iteDf (vs_ne (show ("clear" : Str) ≠ "same" by decide +kernel)) ⟨_, rfl, rfl, _, rfl, iteDf (vs_ne (show ("clear" : Str) ≠ "set" by decide +kernel)) ⟨_, rfl, rfl, _, rfl, iteDf (vs_ne (show ("clear" : Str) ≠ "copy" by decide +kernel)) ⟨_, rfl, rfl, _, rfl, iteDt rfl ?_⟩⟩⟩⟩⟩
      rw [← tx_clear] at q1
      exact ⟨_, rfl, b, _, 1, _, rfl, rfl, hb, rfl, _, _, rfl, rfl, up (sh1 m1), up (sh1 l1), _, rfl, b, _, 2, _, rfl, rfl, hb, rfl, _, _, rfl, rfl, up (shA (sh1 m1) l1), up (sh1 m2), _, _, rfl, rfl, up (shA (shA (sh1 m1) l1) m2), up (sh1 l5), by simp only [s_assoc]; exact q1⟩
    case choose pl x i ls =>
      have m1 := s26 hl.1
      have m2 := s26 hl.2.1
      have m3 := s26 hl.2.2.1
      have m4 := s26 hl.2.2.2
      refine iteDf (show ("choose" : Str) ∉ udd by decide +kernel) ⟨_, rfl, rfl, _, rfl, iteDf (vs_ne (show ("choose" : Str) ≠ "zero" by decide +kernel)) ⟨_, rfl, rfl, _, rfl, iteDf (vs_ne (show ("choose" : Str) ≠ "same" by decide +kernel)) ⟨_, rfl, rfl, _, rfl, iteDf (vs_ne (show ("choose" : Str) ≠ "set" by decide +kernel)) ⟨_, rfl, rfl, _, rfl, iteDf (vs_ne (show ("choose" : Str) ≠ "copy" by decide +kernel)) ⟨_, rfl, rfl, _, rfl, iteDf (vs_ne (show ("choose" : Str) ≠ "clear" by decide +kernel)) ⟨_, rfl, rfl, _, rfl, iteDt rfl ?_⟩⟩⟩⟩⟩⟩
      rw [← tx_choose] at q1
      exact ⟨_, rfl, b, _, 1, _, rfl, rfl, hb, rfl, _, _, rfl, rfl, up (sh1 m1), up (sh1 l8), _, rfl, b, _, 2, _, rfl, rfl, hb, rfl, _, _, rfl, rfl, up (shA (sh1 m1) l8), up (sh1 m2), _, _, rfl, rfl, up (shA (shA (sh1 m1) l8) m2), up (sh1 l1), _, rfl, b, _, 3, _, rfl, rfl, hb, rfl, _, _, rfl, rfl, up (shA (shA (shA (sh1 m1) l8) m2) l1), up (sh1 m3), _, _, rfl, rfl, up (shA (shA (shA (shA (sh1 m1) l8) m2) l1) m3), up (sh1 l9), _, rfl, b, _, 4, _, rfl, rfl, hb, rfl, _, _, rfl, rfl, up (shA (shA (shA (shA (shA (sh1 m1) l8) m2) l1) m3) l9), up (sh1 m4), by simp only [s_assoc]; exact q1⟩
    case wins pl =>
      have m1 := s26 hl
      refine iteDf (show ("wins" : Str) ∉ udd by decide +kernel) ⟨_, rfl, rfl, _, rfl, iteDf (vs_ne (show ("wins" : Str) ≠ "zero" by decide +kernel)) ⟨_, rfl, rfl, _, rfl, iteDf (vs_ne (show ("wins" : Str) ≠ "same" by decide +kernel)) ⟨_, rfl, rfl, _, rfl, iteDf (vs_ne (show ("wins" : Str) ≠ "set" by decide +kernel)) ⟨_, rfl, rfl, _, rfl, iteDf (vs_ne (show ("wins" : Str) ≠ "copy" by decide +kernel)) ⟨_, rfl, rfl, _, rfl, iteDf (vs_ne (show ("wins" : Str) ≠ "clear" by decide +kernel)) ⟨_, rfl, rfl, _, rfl, iteDf (vs_ne (show ("wins" : Str) ≠ "choose" by decide +kernel)) ?_⟩⟩⟩⟩⟩⟩
      rw [← tx_wins] at q1
      exact ⟨_, rfl, rfl, _, rfl, iteDt rfl ⟨_, rfl, b, _, 1, _, rfl, rfl, hb, rfl, _, _, rfl, rfl, up (sh1 m1), up (sh1 l10), q1⟩⟩
end
end NP
/-! NPLaw4 -/
namespace NP
open PySem PySem.Spec PyProof.Rows L2 TL
def ir : List Str := ["if", "repeat"]
theorem rep2 (k : Nat) : repS " " (2 * k) = repS "  " k := sx (by
  rw [tl_repS, tl_repS, show tl (" " : Str) = [32] by decide +kernel, show tl ("  " : Str) = [32, 32] by decide +kernel]
  induction k with
  | zero => rfl
  | succ k ih =>
    rw [show 2 * (k + 1) = 2 * k + 1 + 1 by omega, List.replicate_succ, List.replicate_succ, List.replicate_succ, List.flatten_cons, List.flatten_cons, List.flatten_cons, ih]
    rfl)
theorem rep_len (k : Nat) : (repS " " k).length = k := by
  rw [len_tl, tl_repS]
  simp [show (tl (" " : Str)).length = 1 by decide +kernel]
theorem two_step (b : V) (k : Nat) : [b, V.int (((2 * k : Nat) : Int) + 2)] = [b, V.int ((2 * (k + 1) : Nat) : Int)] := by
  rw [show ((2 * k : Nat) : Int) + 2 = ((2 * (k + 1) : Nat) : Int) by omega]
section
variable {P : Program} {w : World} {K : PySem.W.Frag} {mg : Str → Option Value} {base : Heap}
def sp_law_command_lines (n : Nat) : Sp := fun vs H Q _ => ∃ (cs : List Cmd) (k : Nat) (a : Addr) (xs : List V), vs = [.ref a, .int (2 * k : Nat)] ∧ H a = some (.tup xs) ∧ RpL H (encs cs) xs ∧ fits cs ∧ cnts cs ≤ n ∧ n ≤ 100 ∧ k ≤ 200 - n ∧
  ∀ l H', Same H H' → H l = none → H' l = some (.lst (((csLns k cs).map lnS).map V.str)) → Q (.ref l) H'
abbrev nn_law_command_lines : List Str := ["_law_commands", "_law_ahead", "_law_found", "_law_command"]
theorem sc_law_command_lines : FnScope nn_law_command_lines ["_law_commands", "_law_ahead"] d_law_command_lines.scope := ⟨rfl, rfl, rfl, by decide +kernel, rfl, by decide +kernel, by decide +kernel⟩
theorem ok_law_command_lines (T : Top w K mg) : ∀ n : Nat, OK P w K mg base (n + 6) "_law_command_lines" ["_law_commands", "_law_ahead"] (sp_law_command_lines n) := by
  have big : 10000 ≤ sizeLine := by decide
  intro n
  induction n with
  | zero =>
    refine Has.ok (d := d_law_command_lines) (T.has 70 72 rfl rfl rfl rfl rfl) sc_law_command_lines (fun _ _ _ _ _ _ us hl => match us, hl with | [_, _], _ => rfl) (by rintro _ _ _ _ ⟨_, _, _, _, rfl, _⟩; rfl) (fun f cdv A outer s H vs Q E hRm h => ?_)
    obtain ⟨cs, k, a, xs, rfl, ha, hr, hf, hc, hn, hk, q⟩ := h
    have e : cs = [] := by
      have := cnts_len cs
      exact List.length_eq_zero_iff.mp (by omega)
    subst e
    have ex : xs = [] := hr
    subst ex
    refine ⟨_, (pss_cons (ps_set (i := 2) sc_law_command_lines.nd rfl (.inl rfl) (pe_lst pa_nil))
    (pss_cons (ps_for PassesOwn.never rfl (pi_tup (pv 0)) (pg_name (i := 3) sc_law_command_lines.nd rfl (.inl rfl)) pss_never)
    (pss_one (ps_ret (pv 2))))), ?_⟩
    refine ⟨by show 0 ≤ sizeLine; decide, fun F hF => ?_⟩
    have s0 : Same H (upd H F (.lst [])) := same_upd hF
    refine ⟨_, rfl, a, rfl, ⟨_, .of (s0 _ _ ha)⟩, ?_⟩
    refine for_it (walk_tup (xs := [])) (fun i σ H' => Same H H' ∧ (∃ o3, σ = [some (.ref a), some (.int (2 * k : Nat)), some (.ref F), o3]) ∧ H' F = some (.lst [])) ⟨s0, ⟨_, rfl⟩, upd_same⟩ (fun i σ H' _ hp => .of (hp.1 _ _ ha)) (fun i x σ H1 H2 hi => absurd hi (Nat.not_lt_zero _)) (fun σ H1 hp => ?_)
    obtain ⟨s1, ⟨o3, rfl⟩, hF1⟩ := hp
    exact ⟨_, rfl, q F H1 s1 hF hF1⟩
  | succ n ih =>
    refine Has.ok (d := d_law_command_lines) (T.has 70 72 rfl rfl rfl rfl rfl) sc_law_command_lines (fun _ _ _ _ _ _ us hl => match us, hl with | [_, _], _ => rfl) (by rintro _ _ _ _ ⟨_, _, _, _, rfl, _⟩; rfl) (fun f cdv A outer s H vs Q E hRm h => ?_)
    obtain ⟨cs, k, a, xs, rfl, ha, hr, hf, hc, hn, hk, q⟩ := h
    refine ⟨_, (pss_cons (ps_set (i := 2) sc_law_command_lines.nd rfl (.inl rfl) (pe_lst pa_nil))
    (pss_cons (ps_for PassesOwn.never rfl (pi_tup (pv 0)) (pg_name (i := 3) sc_law_command_lines.nd rfl (.inl rfl)) (pss_cons (ps_expr (pe_bm PySem.F.plainAttrs_list PySem.F.slot_list_append PySem.F.type_list_append mt_append (pv 2) (pa_cons (pe_op op_as (pe_op op_mul_str pe_str (pv 1)) (pe_c (ok_law_command_text T) (hRm.mono (by omega)) (by rfl) (pa_cons (pv 3) pa_nil))) pa_nil)))
    (pss_one (ps_if (pt_cmpR op_in_seq (pe_ix ixT (pv 3) pe_int (fun _ _ => rfl)) (pe_tup (pa_cons pe_str (pa_cons pe_str pa_nil))) (by rfl)) (pss_cons (ps_expr (pe_bm PySem.F.plainAttrs_list PySem.F.slot_list_extend PySem.F.type_list_extend mt_extend (pv 2) (pa_cons (pe_c ih hRm (by rfl) (pa_cons (pe_ix ixT (pv 3) pe_int (fun _ _ => rfl)) (pa_cons (pe_op op_add (pv 1) pe_int) pa_nil))) pa_nil)))
    (pss_cons (ps_if (PW.pt (pw_and (pt_cmpR op_eq (pe_ix ixT (pv 3) pe_int (fun _ _ => rfl)) pe_str (nomark _)) (pw_and1 (pt_cmpR (op_neNilT hRm.units0) (pe_ix ixT (pv 3) pe_int (fun _ _ => rfl)) (pe_tup pa_nil) (nomark _))))) (pss_one (ps_expr (pe_bm PySem.F.plainAttrs_list PySem.F.slot_list_extend PySem.F.type_list_extend mt_extend (pv 2) (pa_cons (pe_op op_cat (pe_lst (pa_cons (pe_op op_as (pe_op op_mul_str pe_str (pv 1)) pe_str) pa_nil)) (pe_c ih hRm (by rfl) (pa_cons (pe_ix ixT (pv 3) pe_int (fun _ _ => rfl)) (pa_cons (pe_op op_add (pv 1) pe_int) pa_nil)))) pa_nil)))) pss_nil)
    (pss_one (ps_expr (pe_bm PySem.F.plainAttrs_list PySem.F.slot_list_append PySem.F.type_list_append mt_append (pv 2) (pa_cons (pe_op op_as (pe_op op_mul_str pe_str (pv 1)) pe_str) pa_nil)))))) pss_nil))))
    (pss_one (ps_ret (pv 2))))), ?_⟩
    refine ⟨by show 0 ≤ sizeLine; decide, fun F hF => ?_⟩
    have s0 : Same H (upd H F (.lst [])) := same_upd hF
    have hF0 : (upd H F (.lst [])) F = some (.lst (((csLns k (cs.take 0)).map lnS).map V.str)) := upd_same
    generalize upd H F (.lst []) = H0 at s0 hF0 ⊢
    rw [encs_map] at hr
    have hr2 := RpL.all2 Cmd.enc hr
    have e1 := hr2.len
    refine ⟨_, rfl, a, rfl, ⟨_, .of (s0 _ _ ha)⟩, ?_⟩
    refine for_it walk_tup (fun i σ H' => Same H H' ∧ (∃ o3, σ = [some (.ref a), some (.int (2 * k : Nat)), some (.ref F), o3]) ∧ H' F = some (.lst (((csLns k (cs.take i)).map lnS).map V.str))) ⟨s0, ⟨_, rfl⟩, hF0⟩ (fun i σ H' _ hp => .of (hp.1 _ _ ha)) (fun i x σ H1 H2 hi hp hy => ?_) (fun σ H1 hp => ?_)
    · obtain ⟨s1, ⟨o3, rfl⟩, hF1⟩ := hp
      obtain ⟨rfl, hx⟩ := hy
      obtain ⟨c, hc1, hv0⟩ := hr2.at_ hx
      have hcm := List.mem_of_getElem? hc1
      have hfc := fits_all.mp hf c hcm
      have hcc := cnt_le_mem hcm
      have hci := c.inner_cnt
      have hXl : (csLns k (cs.take i)).length ≤ 400 := by
        have h1 := csLns_cnt k (cs.take i)
        have h2 : cnts (cs.take i) + cnts (cs.drop i) = cnts cs := by rw [← cnts_app, List.take_append_drop]
        omega
      have hnext : csLns k (cs.take (i + 1)) = csLns k (cs.take i) ++ cmdLns k c := by
        rw [List.take_add_one, hc1, csLns_app]
        show _ ++ (cmdLns k c ++ []) = _
        rw [List.append_nil]
      rw [hnext]
      generalize csLns k (cs.take i) = X at hXl hF1 ⊢
      have hk2 : (repS " " (2 * k)).length ≤ 8000000 := by rw [rep_len]; omega
      have hend : ("end" : Str).length ≤ 8000000 := by decide +kernel
      have hels : ("else" : Str).length ≤ 8000000 := by decide +kernel
      have hsp : (" " : Str).length ≤ 1000 := by decide +kernel
      have lnz : ∀ l : Ln, repS " " (2 * k) ++ l.text = lnS (k, l) := fun l => by rw [rep2]; rfl
      have hln : c.ln.text.length ≤ 8000000 := by
        have : c.ln.fit := by cases c with
          | si s => exact hfc
          | re p cs => exact hfc.1
          | if_ t cs os => exact hfc.1
        exact Nat.le_trans (Ln.text_len this) (by decide)
      refine ⟨_, rfl, .inl ⟨rfl, _, .of hF1⟩, _, rfl, _, 2 * k, rfl, rfl, by omega, hsp, _, rfl, c, x, rfl, hv0.same s1, hfc, fun H3 s3 => ?_⟩
      have hF3 := s3 _ _ hF1
      refine ⟨_, _, rfl, rfl, hk2, hln, F, _, _, rfl, rfl, hF3, by simp only [List.length_map]; omega, ?_⟩
      obtain ⟨H4, e4, s4, hF4, k4⟩ := put1 (x := (k, c.ln)) (s1.trans s3) hF hF3 (lnz _)
      rw [e4]
      have hv4 := hv0.same s4
      obtain ⟨b, us, rfl, hb, hls⟩ := Rp.cmd hv4
      refine ⟨_, rfl, b, _, 0, _, rfl, rfl, hb, rfl, by show 2 ≤ sizeLine; decide, fun t ht => ⟨t, ir.map V.str, rfl, .inr (.of upd_same), rfl, flat_strs _, _, rfl, ?_⟩⟩
      rw [if_neg (by decide), inV_strs]
      have st : Same H4 (upd H4 t (.tup [V.str "if", .str "repeat"])) := same_upd ht
      generalize upd H4 t (.tup [V.str "if", .str "repeat"]) = H5 at st ⊢
      have s5 := s4.trans st
      have hF5 := st _ _ hF4
      have hb5 := st _ _ hb
      cases c with
      | si s =>
        refine iteDf (show s.word ∉ ir from fun hm => by
          have := s.notif
          rcases List.mem_cons.mp hm with e | hm
          · exact this.1 e
          · exact this.2 (List.mem_singleton.mp hm)) ⟨s5, ⟨_, rfl⟩, hF5⟩
      | re p cs2 =>
        obtain ⟨b', u, b2, xs2, eb, hbr, hu, hb2, hr2'⟩ := Rp.rep (hv0.same s5)
        cases eb
        have hcn2 : cnts cs2 ≤ n := by have : (Cmd.re p cs2).inner = cs2 := rfl; rw [this] at hci; omega
        have hl2 := csLns_cnt (k + 1) cs2
        refine iteDt (show ("repeat" : Str) ∈ ir by decide +kernel) ?_
        refine ⟨_, rfl, .inl ⟨rfl, _, .of hF5⟩, _, rfl, b, _, 2, _, rfl, rfl, hbr, rfl, _, rfl, _, _, rfl, rfl, cs2, k + 1, b2, xs2, two_step _ _, hb2, hr2', hfc.2, hcn2, by omega, by omega, fun l H6 s6 hl6 hl62 => ?_⟩
        have hF6 := s6 _ _ hF5
        refine ⟨F, l, _, _, rfl, rfl, hF6, hl62, by simp only [List.length_map, List.length_append, List.length_cons, List.length_nil]; omega, ?_⟩
        obtain ⟨H7, e7, s7, hF7, k7⟩ := putN (Y := csLns (k + 1) cs2) (s5.trans s6) hF hF6
        rw [e7]
        have hbr7 := k7 _ _ (s6 _ _ hbr)
        refine ⟨_, rfl, b, _, 0, _, rfl, rfl, hbr7, rfl, rfl, _, rfl, iteDf (vs_ne (show ("repeat" : Str) ≠ "if" by decide +kernel)) ?_⟩
        refine ⟨_, rfl, .inl ⟨rfl, _, .of hF7⟩, _, rfl, _, 2 * k, rfl, rfl, by omega, hsp, _, _, rfl, rfl, hk2, hend, F, _, _, rfl, rfl, hF7, by simp only [List.length_map, List.length_append, List.length_cons, List.length_nil]; omega, ?_⟩
        obtain ⟨H8, e8, s8, hF8, k8⟩ := put1 (x := (k, .fin)) s7 hF hF7 (z := repS " " (2 * k) ++ "end") (by rw [← fin_text]; exact lnz _)
        rw [e8]
        refine ⟨s8, ⟨_, rfl⟩, ?_⟩
        have e9 : X ++ cmdLns k (.re p cs2) = X ++ [(k, (Cmd.re p cs2).ln)] ++ csLns (k + 1) cs2 ++ [(k, .fin)] := by simp [cmdLns, Cmd.ln]
        rw [e9]
        exact hF8
      | if_ tt cs2 os =>
        obtain ⟨b', u, b2, b3, xs2, ys2, eb, hbr, hu, hb2, hr2', hb3, hr3'⟩ := Rp.ifc (hv0.same s5)
        cases eb
        have hin : cnts (Cmd.if_ tt cs2 os).inner = cnts cs2 + cnts os := cnts_app
        have hcn2 : cnts cs2 ≤ n := by omega
        have hcn3 : cnts os ≤ n := by omega
        have hl2 := csLns_cnt (k + 1) cs2
        have hl3 := csLns_cnt (k + 1) os
        refine iteDt (show ("if" : Str) ∈ ir by decide +kernel) ?_
        refine ⟨_, rfl, .inl ⟨rfl, _, .of hF5⟩, _, rfl, b, _, 2, _, rfl, rfl, hbr, rfl, _, rfl, _, _, rfl, rfl, cs2, k + 1, b2, xs2, two_step _ _, hb2, hr2', hfc.2.1, hcn2, by omega, by omega, fun l H6 s6 hl6 hl62 => ?_⟩
        have hF6 := s6 _ _ hF5
        refine ⟨F, l, _, _, rfl, rfl, hF6, hl62, by simp only [List.length_map, List.length_append, List.length_cons, List.length_nil]; omega, ?_⟩
        obtain ⟨H7, e7, s7, hF7, k7⟩ := putN (Y := csLns (k + 1) cs2) (s5.trans s6) hF hF6
        rw [e7]
        have k57 : TK H5 H7 := (same_tk s6).trans k7
        have hbr7 := k57 _ _ hbr
        have hb37 := k57 _ _ hb3
        have hr37 := hr3'.tk k57
        refine ⟨_, rfl, b, _, 0, _, rfl, rfl, hbr7, rfl, rfl, _, rfl, iteDt rfl ?_⟩
        refine ⟨_, rfl, b, _, 3, _, rfl, rfl, hbr7, rfl, by show 0 ≤ sizeLine; decide, fun t2 ht2 => ?_⟩
        have st2 : Same H7 (upd H7 t2 (.tup [])) := same_upd ht2
        refine ⟨b3, t2, ys2, rfl, rfl, .of (st2 _ _ hb37), .of upd_same, _, rfl, ?_⟩
        generalize upd H7 t2 (.tup []) = H8 at st2 ⊢
        have s8 := s7.trans st2
        have hF8 := st2 _ _ hF7
        have hbr8 := st2 _ _ hbr7
        have hb38 := st2 _ _ hb37
        have hr38 := hr37.same st2
        have ely := RpL.len hr3'
        rw [encs_map, List.length_map] at ely
        cases os with
        | nil =>
          have ey : ys2 = [] := List.length_eq_zero_iff.mp ely
          subst ey
          refine iteF ?_
          refine ⟨_, rfl, .inl ⟨rfl, _, .of hF8⟩, _, rfl, _, 2 * k, rfl, rfl, by omega, hsp, _, _, rfl, rfl, hk2, hend, F, _, _, rfl, rfl, hF8, by simp only [List.length_map, List.length_append, List.length_cons, List.length_nil]; omega, ?_⟩
          obtain ⟨H9, e9, s9, hF9, k9⟩ := put1 (x := (k, .fin)) s8 hF hF8 (z := repS " " (2 * k) ++ "end") (by rw [← fin_text]; exact lnz _)
          rw [e9]
          refine ⟨s9, ⟨_, rfl⟩, ?_⟩
          have e10 : X ++ cmdLns k (.if_ tt cs2 []) = X ++ [(k, (Cmd.if_ tt cs2 []).ln)] ++ csLns (k + 1) cs2 ++ [(k, .fin)] := by simp [cmdLns, Cmd.ln]
          rw [e10]
          exact hF9
        | cons o r =>
          have ey : ys2.isEmpty = false := by
            cases ys2 with
            | nil => cases ely
            | cons _ _ => rfl
          rw [ey]
          refine iteT ?_
          refine ⟨_, rfl, .inl ⟨rfl, _, .of hF8⟩, _, rfl, _, 2 * k, rfl, rfl, by omega, hsp, _, _, rfl, rfl, hk2, hels, by show 1 ≤ sizeLine; decide, fun l1 hl1 => ?_⟩
          have s9 : Same H8 (upd H8 l1 (.lst [.str (repS " " (2 * k) ++ "else")])) := same_upd hl1
          have hl9 : (upd H8 l1 (.lst [.str (repS " " (2 * k) ++ "else")])) l1 = some (.lst [.str (repS " " (2 * k) ++ "else")]) := upd_same
          generalize upd H8 l1 (.lst [.str (repS " " (2 * k) ++ "else")]) = H9 at s9 hl9 ⊢
          refine ⟨_, rfl, b, _, 3, _, rfl, rfl, s9 _ _ hbr8, rfl, _, rfl, _, _, rfl, rfl, o :: r, k + 1, b3, ys2, two_step _ _, s9 _ _ hb38, hr38.same s9, hfc.2.2, hcn3, by omega, by omega, fun l2 H10 s10 hl10 hl102 => ?_⟩
          refine ⟨l1, l2, _, _, rfl, rfl, s10 _ _ hl9, hl102, by simp only [List.length_map, List.length_cons, List.length_nil]; omega, fun l3 hl3' => ?_⟩
          have s11 : Same H8 (upd H10 l3 (.lst ([.str (repS " " (2 * k) ++ "else")] ++ ((csLns (k + 1) (o :: r)).map lnS).map V.str))) := (s9.trans s10).trans (same_upd hl3')
          have hl11 : (upd H10 l3 (.lst ([.str (repS " " (2 * k) ++ "else")] ++ ((csLns (k + 1) (o :: r)).map lnS).map V.str))) l3 = some (.lst ((((k, Ln.els) :: csLns (k + 1) (o :: r)).map lnS).map V.str)) := by
            have : repS " " (2 * k) ++ "else" = lnS (k, .els) := by rw [← els_text]; exact lnz _
            rw [this]
            exact upd_same
          generalize upd H10 l3 (.lst ([.str (repS " " (2 * k) ++ "else")] ++ ((csLns (k + 1) (o :: r)).map lnS).map V.str)) = H11 at s11 hl11 ⊢
          have hF11 := s11 _ _ hF8
          refine ⟨F, l3, _, _, rfl, rfl, hF11, hl11, by simp only [List.length_map, List.length_append, List.length_cons, List.length_nil]; omega, ?_⟩
          obtain ⟨H12, e12, s12, hF12, k12⟩ := putN (Y := (k, Ln.els) :: csLns (k + 1) (o :: r)) (s8.trans s11) hF hF11
          rw [e12]
          refine ⟨_, rfl, .inl ⟨rfl, _, .of hF12⟩, _, rfl, _, 2 * k, rfl, rfl, by omega, hsp, _, _, rfl, rfl, hk2, hend, F, _, _, rfl, rfl, hF12, by simp only [List.length_map, List.length_append, List.length_cons, List.length_nil]; omega, ?_⟩
          obtain ⟨H13, e13, s13, hF13, k13⟩ := put1 (x := (k, .fin)) s12 hF hF12 (z := repS " " (2 * k) ++ "end") (by rw [← fin_text]; exact lnz _)
          rw [e13]
          refine ⟨s13, ⟨_, rfl⟩, ?_⟩
          have e10 : X ++ cmdLns k (.if_ tt cs2 (o :: r)) = X ++ [(k, (Cmd.if_ tt cs2 (o :: r)).ln)] ++ csLns (k + 1) cs2 ++ ((k, Ln.els) :: csLns (k + 1) (o :: r)) ++ [(k, .fin)] := by simp [cmdLns, Cmd.ln]
          rw [e10]
          exact hF13
    · obtain ⟨s1, ⟨o3, rfl⟩, hF1⟩ := hp
      rw [e1, List.take_length] at hF1
      exact ⟨_, rfl, q F H1 s1 hF hF1⟩
end
end NP
/-! NPLaw5 -/
namespace NP
open PySem PySem.Spec PyProof.Rows L2 TL
theorem mapLn_app (A B : List (Nat × Ln)) : ((A ++ B).map lnS).map V.str = (A.map lnS).map V.str ++ (B.map lnS).map V.str := by rw [List.map_append, List.map_append]
section
variable {P : Program} {w : World} {K : PySem.W.Frag} {mg : Str → Option Value} {base : Heap}
theorem m500 {z : Str} (h : z.length ≤ 132) : z.length ≤ 500 := Nat.le_trans h (by decide)
def sp_law_text : Sp := fun vs H Q _ => ∃ (s : Scr) (v : V), vs = [v] ∧ Rp H s.enc v ∧ s.sm ∧ pcnt s.procs ≤ 16 ∧ ∀ H', Same H H' → Q (.str (scrText s)) H'
abbrev nn_law_text : List Str := ["_law_script", "_law_found", "_law_name", "_law_poly", "_law_commands"]
theorem sc_law_text : FnScope nn_law_text ["_law_script"] d_law_text.scope := ⟨rfl, rfl, rfl, by decide +kernel, rfl, by decide +kernel, by decide +kernel⟩
theorem ok_law_text (T : Top w K mg) : OK P w K mg base 23 "_law_text" ["_law_script"] sp_law_text := by
  refine Has.ok (d := d_law_text) (T.has 71 73 rfl rfl rfl rfl rfl) sc_law_text (fun _ _ _ _ _ _ us hl => match us, hl with | [_], _ => rfl) (by rintro _ _ _ _ ⟨_, _, rfl, _⟩; rfl) (fun f cdv A outer s H vs Q E hRm h => ?_)
  obtain ⟨t, v, rfl, hv, hf, hp16, q⟩ := h
  obtain ⟨a, b, c, d, xs, ys, zs, rfl, ha, hb, hrb, hc, hrc, hd, hrd⟩ := Rp.scr hv
  refine ⟨_, (pss_cons (ps_setLc (i := 1) (own := [("_law_name", 2), ("_law_poly", 3)]) (g := gTup K 2 (gCons (gName 2) (gCons (gName 3) gNil))) rfl sc_law_text.nd rfl rfl (sw_true rfl rfl rfl (by decide +kernel)) (pi_tup (pe_ix ixT (pv 0) pe_int (fun _ _ => rfl))) (blkOk_by (N := nn_law_text) (sc := d_law_text.scope) (by decide +kernel)) (fun _ _ _ _ _ => (pg_tup rfl (pgs_cons (pg_name (i := 2) sc_law_text.nd rfl (.inl rfl) (.inr rfl)) (pgs_cons (pg_name (i := 3) sc_law_text.nd rfl (.inl rfl) (.inr rfl)) pgs_nil)))) (fun _ _ _ _ _ => pts_nil) (fun _ _ _ _ _ => (pe_op op_as (pe_op op_as (pe_op op_as pe_str (pv 2)) pe_str) (pe_c (ok_law_poly_text T) (hRm.mono (by decide)) (by rfl) (pa_cons (pv 3) pa_nil)))))
    (pss_cons (ps_expr (pe_bm PySem.F.plainAttrs_list PySem.F.slot_list_extend PySem.F.type_list_extend mt_extend (pv 1) (pa_cons (pe_lc (own := [("_law_name", 2), ("_law_poly", 3)]) (g := gTup K 2 (gCons (gName 2) (gCons (gName 3) gNil))) rfl sc_law_text.nd (pi_tup (pe_ix ixT (pv 0) pe_int (fun _ _ => rfl))) (blkOk_by (N := nn_law_text) (sc := d_law_text.scope) (by decide +kernel)) (fun _ _ _ _ _ => (pg_tup rfl (pgs_cons (pg_name (i := 2) sc_law_text.nd rfl (.inl rfl) (.inr rfl)) (pgs_cons (pg_name (i := 3) sc_law_text.nd rfl (.inl rfl) (.inr rfl)) pgs_nil)))) (fun _ _ _ _ _ => pts_nil) (fun _ _ _ _ _ => (pe_op op_as (pe_op op_as (pe_op op_as pe_str (pv 2)) pe_str) (pe_c (ok_law_poly_text T) (hRm.mono (by decide)) (by rfl) (pa_cons (pv 3) pa_nil))))) pa_nil)))
    (pss_cons (ps_for PassesOwn.never rfl (pi_tup (pe_ix ixT (pv 0) pe_int (fun _ _ => rfl))) (pg_tup rfl (pgs_cons (pg_name (i := 2) sc_law_text.nd rfl (.inl rfl) (.inr rfl)) (pgs_cons (pg_name (i := 4) sc_law_text.nd rfl (.inl rfl) (.inr rfl)) pgs_nil))) (pss_one (ps_expr (pe_bm PySem.F.plainAttrs_list PySem.F.slot_list_extend PySem.F.type_list_extend mt_extend (pv 1) (pa_cons (pe_op op_cat (pe_op op_cat (pe_lst (pa_cons (pe_op op_as pe_str (pv 2)) pa_nil)) (pe_c (ok_law_command_lines T 16) (hRm.mono (by decide)) (by rfl) (pa_cons (pv 4) (pa_cons pe_int pa_nil)))) (pe_lst (pa_cons pe_str pa_nil))) pa_nil)))))
    (pss_one (ps_ret (pe_join pe_str (pv 1))))))), ?_⟩
  have e1 := RpL.len hrb
  have e2 := RpL.len hrc
  have e3 := RpL.len hrd
  rw [List.length_map] at e1 e2 e3
  have f1 := hf.f.tl
  have f2 := hf.f.il
  have f3 := hf.f.pl
  have big : 10000 ≤ sizeLine := by decide
  have l1 : ("tape " : Str).length ≤ 500 := by decide +kernel
  have l2 : (" size " : Str).length ≤ 500 := by decide +kernel
  have l3 : ("index " : Str).length ≤ 500 := by decide +kernel
  have l4 : (" to " : Str).length ≤ 500 := by decide +kernel
  have l5 : ("procedure " : Str).length ≤ 500 := by decide +kernel
  refine ⟨_, rfl, a, _, 0, _, rfl, rfl, ha, rfl, b, rfl, ⟨_, .of hb⟩, fun D hD => ?_⟩
  refine lc_map walk_tup hD (by omega) (fun H' s1 => .of (s1 _ _ hb)) (fun i y _ => ∃ h, t.tapes[i]? = some h ∧ y = .str (lnS (0, .tape h.1 h.2))) (fun _ _ _ _ h _ => h) (fun i x H1 H2 hi s1 hy C k => ?_) fun ys1 H1 hn s1 hD1 hr1 => ?_
  · obtain ⟨rfl, hx⟩ := hy
    obtain ⟨dd, h1, h2⟩ := RpL.at_ hrb hx
    rw [List.getElem?_map] at h1
    obtain ⟨h, h3, rfl⟩ := Option.map_eq_some_iff.mp h1
    have hm := hf.f.t h (List.mem_of_getElem? h3)
    obtain ⟨p, u, rfl, hp, hu⟩ := Rp.head2 h2
    have m1 := s26 (nm_len hm.1)
    have m2 := m500 (tpoly_len hm.2)
    refine ⟨p, _, rfl, .of (s1 _ _ hp), rfl, _, _, rfl, _, _, rfl, rfl, rfl, _, rfl, _, _, rfl, rfl, up (sh1 l1), up (sh1 m1), _, _, rfl, rfl, up (shA (sh1 l1) m1), up (sh1 l2), _, rfl, h.2, u, rfl, hu.same s1, hm.2, fun H5 s5 => ⟨_, _, rfl, rfl, up (shA (shA (sh1 l1) m1) l2), up (sh1 m2), k _ _ s5 ⟨h, h3, ?_⟩⟩⟩
    rw [lnS_zero, tape_text]
    simp only [s_assoc]
    rfl
  have g1 : ys1 = ((t.tapes.map fun h => ((0, .tape h.1 h.2) : Nat × Ln)).map lnS).map V.str := by
    refine List.ext_getElem? fun i => ?_
    by_cases hi : i < ys1.length
    · obtain ⟨h, hq, e⟩ := hr1 i ys1[i] (List.getElem?_eq_getElem hi)
      rw [List.getElem?_eq_getElem hi, List.getElem?_map, List.getElem?_map, List.getElem?_map, hq, e]
      rfl
    · rw [List.getElem?_eq_none (by omega), List.getElem?_eq_none (by simp; omega)]
  have hc1 := s1 _ _ hc
  have hrc1 := hrc.same s1
  refine ⟨_, rfl, .inl ⟨rfl, _, .of hD1⟩, _, rfl, a, _, 1, _, rfl, rfl, s1 _ _ ha, rfl, c, rfl, ⟨_, .of hc1⟩, fun D2 hD2 => ?_⟩
  refine lc_map walk_tup hD2 (by omega) (fun H' s1 => .of (s1 _ _ hc1)) (fun i y _ => ∃ h, t.idx[i]? = some h ∧ y = .str (lnS (0, .idx h.1 h.2))) (fun _ _ _ _ h _ => h) (fun i x H3 H4 hi s3 hy C k => ?_) fun ys2 H2 hn2 s2 hD3 hr2 => ?_
  · obtain ⟨rfl, hx⟩ := hy
    obtain ⟨dd, h1, h2⟩ := RpL.at_ hrc1 hx
    rw [List.getElem?_map] at h1
    obtain ⟨h, h3, rfl⟩ := Option.map_eq_some_iff.mp h1
    have hm := hf.f.i h (List.mem_of_getElem? h3)
    obtain ⟨p, u, rfl, hp, hu⟩ := Rp.head2 h2
    have m1 := s26 (nm_len hm.1)
    have m2 := m500 (tpoly_len hm.2)
    refine ⟨p, _, rfl, .of (s3 _ _ hp), rfl, _, _, rfl, _, _, rfl, rfl, rfl, _, rfl, _, _, rfl, rfl, up (sh1 l3), up (sh1 m1), _, _, rfl, rfl, up (shA (sh1 l3) m1), up (sh1 l4), _, rfl, h.2, u, rfl, hu.same s3, hm.2, fun H5 s5 => ⟨_, _, rfl, rfl, up (shA (shA (sh1 l3) m1) l4), up (sh1 m2), k _ _ s5 ⟨h, h3, ?_⟩⟩⟩
    rw [lnS_zero, idx_text]
    simp only [s_assoc]
    rfl
  have g2 : ys2 = ((t.idx.map fun h => ((0, .idx h.1 h.2) : Nat × Ln)).map lnS).map V.str := by
    refine List.ext_getElem? fun i => ?_
    by_cases hi : i < ys2.length
    · obtain ⟨h, hq, e⟩ := hr2 i ys2[i] (List.getElem?_eq_getElem hi)
      rw [List.getElem?_eq_getElem hi, List.getElem?_map, List.getElem?_map, List.getElem?_map, hq, e]
      rfl
    · rw [List.getElem?_eq_none (by omega), List.getElem?_eq_none (by simp; omega)]
  have hD2' := s2 _ _ hD1
  refine ⟨D, D2, ys1, ys2, rfl, rfl, hD2', hD3, by omega, ?_⟩
  have s3 : Same H (upd H2 D (.lst (ys1 ++ ys2))) := Same.up (s1.trans s2) hD
  have hD4 : (upd H2 D (.lst (ys1 ++ ys2))) D = some (.lst (((headLns t).map lnS).map V.str)) := by
    unfold headLns
    rw [g1, g2, ← List.map_append, ← List.map_append]
    exact upd_same
  generalize upd H2 D (.lst (ys1 ++ ys2)) = H3 at s3 hD4 ⊢
  refine ⟨_, rfl, a, _, 2, _, rfl, rfl, s3 _ _ ha, rfl, d, rfl, ⟨_, .of (s3 _ _ hd)⟩, ?_⟩
  refine for_it walk_tup (fun i σ H' => Same H H' ∧ (∃ (o2 o3 o4 : Option V), σ = [some (.ref a), some (.ref D), o2, o3, o4]) ∧ H' D = some (.lst (((headLns t ++ (t.procs.take i).flatMap procLns).map lnS).map V.str))) ?_ (fun i σ H' _ hp => .of (hp.1 _ _ hd)) (fun i x σ H4 H5 hi hp hy => ?_) (fun σ H4 hp => ?_)
  · exact ⟨s3, ⟨none, none, none, rfl⟩, by rw [List.take_zero, List.flatMap_nil, List.append_nil]; exact hD4⟩
  · obtain ⟨s4, ⟨o5, o6, o7, rfl⟩, hL⟩ := hp
    obtain ⟨rfl, hx⟩ := hy
    obtain ⟨dd, h1, h2⟩ := RpL.at_ hrd hx
    rw [List.getElem?_map] at h1
    obtain ⟨r, h3, rfl⟩ := Option.map_eq_some_iff.mp h1
    have hrm := List.mem_of_getElem? h3
    have hm := hf.f.p r hrm
    obtain ⟨p, b2, us, rfl, hp2, hb2, hu⟩ := Rp.proc h2
    have m1 := s26 (nm_len hm.1)
    have hcn := pcnt_mem hrm
    have hlen : ((t.procs.take i).flatMap procLns).length ≤ 3800 := by
      have h1 := procs_cnt (t.procs.take i)
      have h2 : pcnt (t.procs.take i) ≤ pcnt t.procs := by
        have : ∀ (l : List (Str × List Cmd)) (j : Nat), pcnt (l.take j) ≤ pcnt l := by
          intro l
          induction l with
          | nil => intro j; simp [pcnt]
          | cons a l ih =>
            intro j
            cases j with
            | zero => exact Nat.zero_le _
            | succ j =>
              have := ih j
              show cnts a.2 + pcnt (l.take j) ≤ cnts a.2 + pcnt l
              omega
        exact this _ _
      have h3 : (t.procs.take i).length ≤ 100 := by rw [List.length_take]; omega
      omega
    have hhd : (headLns t).length ≤ 200 := by
      unfold headLns
      rw [List.length_append, List.length_map, List.length_map]
      omega
    have hcl := csLns_cnt 1 r.2
    refine ⟨p, _, rfl, .of (s4 _ _ hp2), rfl, _, _, rfl, _, _, rfl, rfl, ?_⟩
    refine ⟨_, rfl, .inl ⟨rfl, _, .of hL⟩, _, rfl, _, _, rfl, rfl, up (sh1 l5), up (sh1 m1), by show 1 ≤ sizeLine; decide, fun l1 hl1 => ?_⟩
    have s9 : Same H5 (upd H5 l1 (.lst [.str ("procedure " ++ r.1)])) := same_upd hl1
    have hl9 : (upd H5 l1 (.lst [.str ("procedure " ++ r.1)])) l1 = some (.lst (([((0, .proc r.1) : Nat × Ln)].map lnS).map V.str)) := by
      have : ("procedure " : Str) ++ r.1 = lnS (0, .proc r.1) := by rw [lnS_zero, proc_text]
      rw [this]
      exact upd_same
    generalize upd H5 l1 (.lst [.str ("procedure " ++ r.1)]) = H6 at s9 hl9 ⊢
    have s6 := s4.trans s9
    refine ⟨_, rfl, r.2, 1, b2, us, rfl, s6 _ _ hb2, hu.same s6, hm.2.1, by omega, by decide, by decide, fun l2 H7 s7 hl7 hl72 => ?_⟩
    refine ⟨l1, l2, _, _, rfl, rfl, s7 _ _ hl9, hl72, by simp only [List.length_map, List.length_cons, List.length_nil]; omega, fun l3 hl3 => ?_⟩
    have s8 : Same H5 (upd H7 l3 (.lst (([((0, .proc r.1) : Nat × Ln)].map lnS).map V.str ++ ((csLns 1 r.2).map lnS).map V.str))) := (s9.trans s7).trans (same_upd hl3)
    have hl8 : (upd H7 l3 (.lst (([((0, .proc r.1) : Nat × Ln)].map lnS).map V.str ++ ((csLns 1 r.2).map lnS).map V.str))) l3 = some (.lst ((([((0, .proc r.1) : Nat × Ln)] ++ csLns 1 r.2).map lnS).map V.str)) := by
      rw [List.map_append, List.map_append]
      exact upd_same
    generalize upd H7 l3 (.lst (([((0, .proc r.1) : Nat × Ln)].map lnS).map V.str ++ ((csLns 1 r.2).map lnS).map V.str)) = H8 at s8 hl8 ⊢
    refine ⟨by show 1 ≤ sizeLine; decide, fun l4 hl4 => ?_⟩
    have s10 : Same H8 (upd H8 l4 (.lst [.str "end"])) := same_upd hl4
    have hl10 : (upd H8 l4 (.lst [.str "end"])) l4 = some (.lst (([((0, .fin) : Nat × Ln)].map lnS).map V.str)) := by
      have : ("end" : Str) = lnS (0, .fin) := by rw [lnS_zero, fin_text]
      rw [this]
      exact upd_same
    generalize upd H8 l4 (.lst [.str "end"]) = H9 at s10 hl10 ⊢
    refine ⟨l3, l4, _, _, rfl, rfl, s10 _ _ hl8, hl10, by simp only [List.length_map, List.length_append, List.length_cons, List.length_nil]; omega, fun l5 hl5 => ?_⟩
    have s11 : Same H5 (upd H9 l5 (.lst ((([((0, .proc r.1) : Nat × Ln)] ++ csLns 1 r.2).map lnS).map V.str ++ ([((0, .fin) : Nat × Ln)].map lnS).map V.str))) := (s8.trans s10).trans (same_upd hl5)
    have hl11 : (upd H9 l5 (.lst ((([((0, .proc r.1) : Nat × Ln)] ++ csLns 1 r.2).map lnS).map V.str ++ ([((0, .fin) : Nat × Ln)].map lnS).map V.str))) l5 = some (.lst (((procLns r).map lnS).map V.str)) := by
      have : procLns r = [((0, .proc r.1) : Nat × Ln)] ++ csLns 1 r.2 ++ [(0, .fin)] := by simp [procLns]
      rw [this, mapLn_app ([((0, .proc r.1) : Nat × Ln)] ++ csLns 1 r.2) [(0, .fin)]]
      exact upd_same
    generalize upd H9 l5 (.lst ((([((0, .proc r.1) : Nat × Ln)] ++ csLns 1 r.2).map lnS).map V.str ++ ([((0, .fin) : Nat × Ln)].map lnS).map V.str)) = H10 at s11 hl11 ⊢
    have hL10 := s11 _ _ hL
    have hpl := procLns_cnt r
    refine ⟨D, l5, _, _, rfl, rfl, hL10, hl11, by simp only [List.length_map, List.length_append]; omega, ?_⟩
    obtain ⟨H11, e11, s12, hL11, k11⟩ := putN (Y := procLns r) (s4.trans s11) hD hL10
    rw [e11]
    refine ⟨s12, ⟨_, _, _, rfl⟩, ?_⟩
    rw [List.take_add_one, h3, List.flatMap_append, ← List.append_assoc]
    show H11 D = some (HO.lst (((headLns t ++ (t.procs.take i).flatMap procLns ++ ([r].flatMap procLns)).map lnS).map V.str))
    rw [show [r].flatMap procLns = procLns r by simp]
    exact hL11
  · obtain ⟨s4, ⟨o5, o6, o7, rfl⟩, hL⟩ := hp
    rw [e3, List.take_length, ← scr_head] at hL
    refine ⟨⟨_, rfl⟩, _, rfl, _, D, (scrLns t).map lnS, rfl, rfl, .inl (.of hL), ?_, ?_⟩
    · have e : ("\n" : Str).length = 1 := by decide +kernel
      rw [e]
      refine join_fits (m := 2400) (n := 4000) (fun y hy => ?_) (by rw [List.length_map]; exact scr_cnt hf) (by decide)
      obtain ⟨x, hx, rfl⟩ := List.mem_map.mp hy
      have := scr_fit hf x hx
      exact lnS_len this.1 this.2
    · rw [join_eq]
      exact q _ s4
end
end NP
/-! NPRulesF -/
namespace NP
open PySem PySem.Spec PyProof.Rows L2 TL
/-! ### == of two lists of texts -/
section
variable {X : Cx}
def rEqLs : R2 := fun x y H Q => ∃ (a b : Addr) (xs ys : List Str), x = .ref a ∧ y = .ref b ∧ H a = some (.lst (xs.map V.str)) ∧ H b = some (.lst (ys.map V.str)) ∧ Q (.bl (decide (xs = ys))) H
theorem all_range (xs ys : List Str) (h : xs.length = ys.length) : (List.range xs.length).all (fun j => decide (xs[j]? = ys[j]?)) = decide (xs = ys) := by
  rw [Bool.eq_iff_iff, List.all_eq_true, decide_eq_true_iff]
  constructor
  · intro k
    refine List.ext_getElem? fun j => ?_
    by_cases hj : j < xs.length
    · exact of_decide_eq_true (k j (List.mem_range.mpr hj))
    · rw [List.getElem?_eq_none (by omega), List.getElem?_eq_none (by omega)]
  · rintro rfl j _
    exact decide_eq_true rfl
theorem op_eqLs (hu : X.A.units < cLine) : OpR X (compareOp .Eq) rEqLs := by
  intro pins s σ H x y v u Q I rx ry h
  obtain ⟨a, b, xs, ys, rfl, rfl, h1, h2, q⟩ := h
  cases rx
  cases ry
  obtain ⟨i1, r1, p1, z1⟩ := I.list (SqL.of h1)
  obtain ⟨i2, r2, p2, z2⟩ := I.list (SqL.of h2)
  have l1 := r1.length
  have l2 := r2.length
  rw [List.length_map] at l1 l2
  by_cases hl : xs.length = ys.length
  · have e := SeqAt.RcAt.lists (A := X.A) (e := fun j => decide (xs[j]? = ys[j]?)) (isList_of p1) (isList_of p2) (by simp; omega) hu (fun j h1 h2 => by
      have hj1 : j < xs.length := by simp at h1; omega
      have hj2 : j < ys.length := by simp at h2; omega
      obtain ⟨u1, e1, q1⟩ := r1.get (i := j) (x := .str xs[j]) (by rw [List.getElem?_map, List.getElem?_eq_getElem hj1]; rfl)
      obtain ⟨u2, e2, q2⟩ := r2.get (i := j) (x := .str ys[j]) (by rw [List.getElem?_map, List.getElem?_eq_getElem hj2]; rfl)
      have f1 : i1.toArray[j] = u1 := by simpa using (List.getElem?_eq_some_iff.mp e1).2
      have f2 : i2.toArray[j] = u2 := by simpa using (List.getElem?_eq_some_iff.mp e2).2
      rw [f1, f2]
      have g : decide (xs[j]? = ys[j]?) = eqV (.str xs[j]) (.str ys[j]) := by
        rw [List.getElem?_eq_getElem hj1, List.getElem?_eq_getElem hj2, Bool.eq_iff_iff, decide_eq_true_iff]
        show _ ↔ (xs[j] == ys[j]) = true
        rw [beq_iff_eq]
        exact ⟨Option.some.inj, congrArg some⟩
      rw [g]
      exact eqAt_V q1 q2 rfl rfl)
    have sz : i1.toArray.size = xs.length := by simp; omega
    rw [sz, all_range xs ys hl] at e
    exact e _ _ _ _ ⟨.bl _, H, I, rfl, q⟩
  · refine (SeqAt.RcAt.lists_lengths (isList_of p1) (isList_of p2) (by simp; omega) hu) _ _ _ _ ⟨.bl false, H, I, rfl, ?_⟩
    rw [decide_eq_false (fun e => hl (by rw [e]))] at q
    exact q
end
end NP
/-! NPLine -/
namespace NP
open PySem PySem.Spec PyProof.Rows L2 TL
theorem lb1 : tl ("[" : Str) = [91] := by decide +kernel
theorem rb1 : tl ("]" : Str) = [93] := by decide +kernel
theorem lbE : ("[" : Str) = ⟨#[91]⟩ := by decide +kernel
/-- a text of a name, a letter, letters, a player: no bracket, no blank, not empty -/
def Pure (z : Str) : Prop := 91 ∉ tl z ∧ 32 ∉ tl z ∧ tl z ≠ []
instance (z : Str) : Decidable (Pure z) := by unfold Pure; exact inferInstance
theorem nm_pure {z : Str} (h : Nm z) : Pure z := (by decide +kernel : ∀ z ∈ allNames, Pure z) z h
theorem part_pure {k z : Str} (h : PartOk k z) : Pure z := by
  unfold PartOk at h
  split at h
  · exact (by decide +kernel : ∀ z ∈ letters4, Pure z) z h
  · split at h
    · exact ⟨fun hm => absurd (h.2.2.1 _ hm).1 (by decide), fun hm => absurd (h.2.2.1 _ hm).1 (by decide), h.1⟩
    · split at h
      · rcases h with rfl | rfl <;> decide +kernel
      · exact nm_pure h
theorem Parts.pure : ∀ {ks zs : List Str}, Parts ks zs → ∀ z ∈ zs, Pure z
  | [], [], _ => fun z hz => by cases hz
  | _ :: _, _ :: _, h => fun z hz => (List.mem_cons.mp hz).elim (fun e => by rw [e]; exact part_pure h.1) (Parts.pure h.2 z)
theorem cell_mem (a i : Str) : 91 ∈ tl (cellS a i) := by
  unfold cellS
  rw [tl_append, tl_append, lb1]
  simp
theorem cell_part {a i : Str} (h : 91 ∉ tl a) : Txt.partition (cellS a i) "[" = (a, ("[" : Str), i ++ "]") := by
  unfold cellS
  rw [← s_assoc]
  exact partition_app lb1 h
section
variable {P : Program} {w : World} {K : PySem.W.Frag} {mg : Str → Option Value} {base : Heap}
def sp_cell_of : Sp := fun vs H Q _ => ∃ a i : Str, vs = [.str (cellS a i)] ∧ 91 ∉ tl a ∧ a.length ≤ 26 ∧ i.length ≤ 26 ∧ ∀ p H', Same H H' → H' p = some (.tup [.str a, .str i]) → Q (.ref p) H'
abbrev nn_cell_of : List Str := ["word", "tape", "_", "rest"]
theorem sc_cell_of : FnScope nn_cell_of ["word"] d_cell_of.scope := ⟨rfl, rfl, rfl, by decide +kernel, rfl, by decide +kernel, by decide +kernel⟩
theorem ok_cell_of (T : Top w K mg) : OK P w K mg base 1 "cell_of" ["word"] sp_cell_of := by
  refine Has.ok (d := d_cell_of) (T.has 26 33 rfl rfl rfl rfl rfl) sc_cell_of (fun _ _ _ _ _ _ us hl => match us, hl with | [_], _ => rfl) (by rintro _ _ _ _ ⟨_, _, rfl, _⟩; rfl) (fun f cdv A outer s H vs Q E hRm h => ?_)
  obtain ⟨a, i, rfl, hf, ha, hi, q⟩ := h
  refine ⟨_, (pss_cons (ps_asg (pe_partition (pv 0) pe_str) (pg_tup rfl (pgs_cons (pg_name (i := 1) sc_cell_of.nd rfl (.inl rfl) (.inr rfl)) (pgs_cons (pg_name (i := 2) sc_cell_of.nd rfl (.inl rfl) (.inr rfl)) (pgs_cons (pg_name (i := 3) sc_cell_of.nd rfl (.inl rfl) (.inr rfl)) pgs_nil)))))
    (pss_one (ps_ret (pe_ifExp (pt_val (pe_m1 PySem.F.slot_str_endswith PySem.F.type_str_endswith mt_endswith (pv 3) pe_str)) (pe_tup (pa_cons (pv 1) (pa_cons (pe_slice sl_str (pv 3) po_none (po_some (pe_un un_neg pe_int))) pa_nil))) (pe_tup pa_nil))))), ?_⟩
  have hl := cell_len ha hi
  have big : 1000 ≤ sizeLine := by decide
  refine ⟨_, rfl, ⟨_, rfl⟩, _, _, rfl, rfl, by decide +kernel, by omega, fun t ht => ?_⟩
  rw [cell_part hf]
  refine ⟨t, _, rfl, .of upd_same, rfl, _, _, rfl, _, _, rfl, _, _, rfl, rfl, ?_⟩
  refine ⟨_, rfl, ⟨_, rfl⟩, _, _, rfl, rfl, _, rfl, ?_⟩
  rw [ends_app _ _ (by rw [rb1]; simp)]
  have hrl : (i ++ "]").length ≤ sizeLine := by
    rw [s_len]
    have : ("]" : Str).length = 1 := by decide +kernel
    omega
  refine iteT ⟨_, rfl, _, rfl, 1, rfl, -1, rfl, _, rfl, hrl, by show 2 ≤ sizeLine; decide, fun p hp => ?_⟩
  rw [cut_last_app _ _ (by rw [rb1]; rfl)]
  exact q p _ ((same_upd ht).trans (same_upd hp)) upd_same
def sp_plain_test_of : Sp := fun vs H Q _ => ∃ (p : Pl) (a : Addr), vs = [.ref a] ∧ H a = some (.lst (p.words.map V.str)) ∧ p.fit ∧ ∀ v H', Same H H' → Rp H' (encWs p.ws) v → Q v H'
abbrev nn_plain_test_of : List Str := ["words", "place", "letter", "other", "tape", "index"]
theorem sc_plain_test_of : FnScope nn_plain_test_of ["words"] d_plain_test_of.scope := ⟨rfl, rfl, rfl, by decide +kernel, rfl, by decide +kernel, by decide +kernel⟩
theorem ok_plain_test_of (T : Top w K mg) : OK P w K mg base 2 "plain_test_of" ["words"] sp_plain_test_of := by
  refine Has.ok (d := d_plain_test_of) (T.has 27 34 rfl rfl rfl rfl rfl) sc_plain_test_of (fun _ _ _ _ _ _ us hl => match us, hl with | [_], _ => rfl) (by rintro _ _ _ _ ⟨_, _, rfl, _⟩; rfl) (fun f cdv A outer s H vs Q E hRm h => ?_)
  obtain ⟨p, a, rfl, ha, hf, q⟩ := h
  refine ⟨_, (pss_cons (ps_match (pv 0) (mcs_cons rfl sc_plain_test_of.nd (mps_cap (i := 1) rfl rfl (mps_str mps_nil)) (pss_one (ps_ret (pe_op catT (pe_tup (pa_cons pe_str pa_nil)) (pe_c (ok_cell_of T) (hRm.mono (by decide)) (by rfl) (pa_cons (pv 1) pa_nil)))))
      (mcs_cons rfl sc_plain_test_of.nd (mps_cap (i := 1) rfl rfl (mps_str (mps_cap (i := 2) rfl rfl mps_nil))) (pss_one (ps_ret (pe_op catT (pe_op catT (pe_tup (pa_cons pe_str pa_nil)) (pe_c (ok_cell_of T) (hRm.mono (by decide)) (by rfl) (pa_cons (pv 1) pa_nil))) (pe_tup (pa_cons (pv 2) pa_nil)))))
      (mcs_cons rfl sc_plain_test_of.nd (mps_cap (i := 1) rfl rfl (mps_str (mps_cap (i := 3) rfl rfl mps_nil))) (pss_one (ps_ret (pe_op catT (pe_op catT (pe_tup (pa_cons pe_str pa_nil)) (pe_c (ok_cell_of T) (hRm.mono (by decide)) (by rfl) (pa_cons (pv 1) pa_nil))) (pe_c (ok_cell_of T) (hRm.mono (by decide)) (by rfl) (pa_cons (pv 3) pa_nil)))))
      (mcs_cons rfl sc_plain_test_of.nd (mps_cap (i := 4) rfl rfl (mps_str (mps_cap (i := 5) rfl rfl mps_nil))) (pss_one (ps_ret (pe_tup (pa_cons pe_str (pa_cons (pv 4) (pa_cons (pv 5) pa_nil))))))
      (mcs_cons rfl sc_plain_test_of.nd (mps_cap (i := 5) rfl rfl (mps_str (mps_cap (i := 3) rfl rfl mps_nil))) (pss_one (ps_ret (pe_tup (pa_cons pe_str (pa_cons (pv 5) (pa_cons (pv 3) pa_nil))))))
      mcs_nil))))))
    (pss_one (ps_ret (pe_tup pa_nil)))), ?_⟩
  have hl := Parts.lens hf
  have hpu := Parts.pure hf
  refine ⟨_, rfl, a, p.words, rfl, .inl (.of ha), ?_⟩
  cases p <;> simp only [Pl.args, List.mem_cons, List.not_mem_nil, or_false, forall_eq_or_imp, forall_eq] at hl hpu
  case empty x i =>
    refine .inr (.inr ⟨_, .cap (.val .nil), ?_⟩)
    refine ⟨by show 1 ≤ sizeLine; decide, fun t ht => ⟨_, rfl, x, i, rfl, hpu.1.1, hl.1, hl.2, fun c H1 s1 hc => ?_⟩⟩
    have ht1 := s1 _ _ (show (upd H t (.tup [.str "empty"])) t = some _ from upd_same)
    refine ⟨t, c, _, _, rfl, rfl, ht1, hc, by show 3 ≤ sizeLine; decide, fun r H2 s2 hr => ?_⟩
    exact q _ _ (((same_upd ht).trans s1).trans s2) ⟨r, _, rfl, hr, RpL.ofStrs ["empty", x, i]⟩
  case is x i z =>
    refine .inl ⟨by simp [Pl.words], .inr (.inr ⟨_, .cap (.val (.cap .nil)), ?_⟩)⟩
    refine ⟨by show 1 ≤ sizeLine; decide, fun t ht => ⟨_, rfl, x, i, rfl, hpu.1.1, hl.1, hl.2.1, fun c H1 s1 hc => ?_⟩⟩
    have ht1 := s1 _ _ (show (upd H t (.tup [.str "is"])) t = some _ from upd_same)
    refine ⟨t, c, _, _, rfl, rfl, ht1, hc, by show 3 ≤ sizeLine; decide, fun r H2 s2 hr => ?_⟩
    refine ⟨_, rfl, by show 1 ≤ sizeLine; decide, fun t2 ht2 => ?_⟩
    have hr2 := same_upd (o := .tup [.str z]) ht2 _ _ hr
    refine ⟨r, t2, _, _, rfl, rfl, hr2, upd_same, by show 4 ≤ sizeLine; decide, fun r2 H3 s3 hr3 => ?_⟩
    exact q _ _ (((((same_upd ht).trans s1).trans s2).trans (same_upd ht2)).trans s3) ⟨r2, _, rfl, hr3, RpL.ofStrs ["is", x, i, z]⟩
  case equal x i z j =>
    refine .inl ⟨by simp [Pl.words], .inr (.inl ⟨.cap (.here (by decide +kernel)), rfl, .inr (.inr ⟨_, .cap (.val (.cap .nil)), ?_⟩)⟩)⟩
    refine ⟨by show 1 ≤ sizeLine; decide, fun t ht => ⟨_, rfl, x, i, rfl, hpu.1.1, hl.1, hl.2.1, fun c H1 s1 hc => ?_⟩⟩
    have ht1 := s1 _ _ (show (upd H t (.tup [.str "equal"])) t = some _ from upd_same)
    refine ⟨t, c, _, _, rfl, rfl, ht1, hc, by show 3 ≤ sizeLine; decide, fun r H2 s2 hr => ?_⟩
    refine ⟨_, rfl, z, j, rfl, hpu.2.2.1.1, hl.2.2.1, hl.2.2.2, fun c2 H3 s3 hc2 => ?_⟩
    refine ⟨r, c2, _, _, rfl, rfl, s3 _ _ hr, hc2, by show 5 ≤ sizeLine; decide, fun r2 H4 s4 hr3 => ?_⟩
    exact q _ _ (((((same_upd ht).trans s1).trans s2).trans s3).trans s4) ⟨r2, _, rfl, hr3, RpL.ofStrs ["equal", x, i, z, j]⟩
  case inside x i =>
    refine .inl ⟨by simp [Pl.words], .inr (.inl ⟨.cap (.here (by decide +kernel)), rfl, .inr (.inl ⟨.cap (.here (by decide +kernel)), rfl, .inr (.inr ⟨_, .cap (.val (.cap .nil)), ?_⟩)⟩)⟩)⟩
    exact ⟨_, rfl, _, rfl, by show 3 ≤ sizeLine; decide, fun t ht => q _ _ (same_upd ht) ⟨t, _, rfl, upd_same, RpL.ofStrs ["inside", x, i]⟩⟩
  case «at» i j =>
    refine .inl ⟨by simp [Pl.words], .inr (.inl ⟨.cap (.here (by decide +kernel)), rfl, .inr (.inl ⟨.cap (.here (by decide +kernel)), rfl, .inr (.inl ⟨.cap (.here (by decide +kernel)), rfl, .inr (.inr ⟨_, .cap (.val (.cap .nil)), ?_⟩)⟩)⟩)⟩)⟩
    exact ⟨_, rfl, _, rfl, by show 3 ≤ sizeLine; decide, fun t ht => q _ _ (same_upd ht) ⟨t, _, rfl, upd_same, RpL.ofStrs ["at", i, j]⟩⟩
end
end NP
/-! NPLine2 -/
namespace NP
open PySem PySem.Spec PyProof.Rows L2 TL
theorem Tst.words_eq : ∀ t : Tst, t.words = List.replicate t.nots ("not" : Str) ++ t.base.words
  | .pl p => rfl
  | .no t => by
    show ("not" : Str) :: t.words = List.replicate (t.nots + 1) ("not" : Str) ++ t.base.words
    rw [Tst.words_eq t, List.replicate_succ]
    rfl
def nest : Nat → Tst → Tst
  | 0, t => t
  | n + 1, t => .no (nest n t)
theorem nest_eq : ∀ t : Tst, nest t.nots (.pl t.base) = t
  | .pl p => rfl
  | .no t => by
    show Tst.no (nest t.nots (.pl t.base)) = .no t
    rw [nest_eq t]
theorem Pl.head_not {p : Pl} (h : p.fit) : ∃ z r, p.words = z :: r ∧ z ≠ "not" := by
  have nn : 91 ∉ tl ("not" : Str) := by decide +kernel
  have nm : ∀ z, PartOk "tape" z ∨ PartOk "index" z → z ≠ ("not" : Str) := fun z h e => by
    have hz : Nm z := h.elim id id
    rw [e] at hz
    exact absurd hz (show ("not" : Str) ∉ allNames by decide +kernel)
  cases p with
  | is a i x => exact ⟨_, _, rfl, fun e => nn (e ▸ cell_mem a i)⟩
  | equal a i b j => exact ⟨_, _, rfl, fun e => nn (e ▸ cell_mem a i)⟩
  | empty a i => exact ⟨_, _, rfl, fun e => nn (e ▸ cell_mem a i)⟩
  | inside a i => exact ⟨_, _, rfl, nm _ (.inl h.1)⟩
  | «at» i j => exact ⟨_, _, rfl, nm _ (.inr h.1)⟩
theorem take_drop_one {ws : List Str} {k : Nat} {z : Str} (h : ws[k]? = some z) : (ws.take (k + 1)).drop k = [z] := by
  obtain ⟨hk, e⟩ := List.getElem?_eq_some_iff.mp h
  rw [List.drop_take, show k + 1 - k = 1 by omega, List.drop_eq_getElem_cons hk, e]
  rfl
section
variable {P : Program} {w : World} {K : PySem.W.Frag} {mg : Str → Option Value} {base : Heap}
def sp_read_test : Sp := fun vs H Q _ => ∃ (t : Tst) (a : Addr), vs = [.ref a] ∧ H a = some (.lst (t.words.map V.str)) ∧ t.fit ∧ ∀ v H', Same H H' → Rp H' t.enc v → v ≠ .non → Q v H'
abbrev nn_read_test : List Str := ["words", "many", "test", "_"]
theorem sc_read_test : FnScope nn_read_test ["words"] d_read_test.scope := ⟨rfl, rfl, rfl, by decide +kernel, rfl, by decide +kernel, by decide +kernel⟩
theorem ok_read_test (T : Top w K mg) : OK P w K mg base 7 "read_test" ["words"] sp_read_test := by
  refine Has.ok (d := d_read_test) (T.has 28 35 rfl rfl rfl rfl rfl) sc_read_test (fun _ _ _ _ _ _ us hl => match us, hl with | [_], _ => rfl) (by rintro _ _ _ _ ⟨_, _, rfl, _⟩; rfl) (fun f cdv A outer s H vs Q E hRm h => ?_)
  obtain ⟨t, a, rfl, ha, hf, q⟩ := h
  refine ⟨_, (pss_cons (ps_set (i := 1) sc_read_test.nd rfl (.inl rfl) pe_int)
    (pss_cons (ps_while PassesOwn.never (pt_cmpR (op_eqLs hRm.units0) (pe_slice sl_list (pv 0) (po_some (pv 1)) (po_some (pe_op op_add (pv 1) pe_int))) (pe_lst (pa_cons pe_str pa_nil)) (nomark _)) (pss_one (ps_aug (i := 1) sc_read_test.nd rfl (.inl rfl) pe_int ip_add)))
    (pss_cons (ps_set (i := 2) sc_read_test.nd rfl (.inl rfl) (pe_c (ok_plain_test_of T) (hRm.mono (by decide)) (by rfl) (pa_cons (pe_slice sl_list (pv 0) (po_some (pv 1)) po_none) pa_nil)))
    (pss_cons (ps_if (pt_not (pt_val (pe_c (ok_is_test_value T) (hRm.mono (by decide)) (by rfl) (pa_cons (pv 2) pa_nil)))) (pss_one (ps_ret pe_non)) pss_nil)
    (pss_cons (ps_for PassesOwn.never rfl (pi_range1 (by rfl) (T.free 99) (pa_cons (pv 1) pa_nil)) (pg_name (i := 3) sc_read_test.nd rfl (.inl rfl)) (pss_one (ps_set (i := 2) sc_read_test.nd rfl (.inl rfl) (pe_tup (pa_cons pe_str (pa_cons (pv 2) pa_nil))))))
    (pss_one (ps_ret (pv 2)))))))), ?_⟩
  have hn3 := hf.2
  obtain ⟨z, r, hz, hzn⟩ := Pl.head_not hf.1
  have hwl := (Tst.words_len hf.1).1
  have hws := t.words_eq
  refine ⟨fun m σ H' => Same H H' ∧ ∃ (k : Nat) (o2 o3 : Option V), σ = [some (.ref a), some (.int (k : Nat)), o2, o3] ∧ k + m = t.nots, ⟨t.nots, .refl _, 0, none, none, rfl, by omega⟩, fun m σ H1 hp => ?_⟩
  obtain ⟨s1, k, o2, o3, rfl, hk⟩ := hp
  have ha1 := s1 _ _ ha
  have hget : t.words[k]? = some (if k < t.nots then ("not" : Str) else z) := by
    rw [hws]
    by_cases h : k < t.nots
    · rw [if_pos h, List.getElem?_append_left (by rw [List.length_replicate]; exact h), List.getElem?_replicate, if_pos h]
    · have e : k = t.nots := by omega
      rw [if_neg h, List.getElem?_append_right (by rw [List.length_replicate]; omega), List.length_replicate, e, Nat.sub_self, hz]
      rfl
  refine ⟨_, rfl, _, rfl, _, rfl, _, rfl, _, _, rfl, rfl, _, rfl, a, _, rfl, .of ha1, fun p hp => ?_⟩
  have s2 : Same H (upd H1 p (.lst (cutV (t.words.map V.str) (some ((k : Nat) : Int)) (some (((k : Nat) : Int) + 1))))) := s1.trans (same_upd hp)
  have hp2 : (upd H1 p (.lst (cutV (t.words.map V.str) (some ((k : Nat) : Int)) (some (((k : Nat) : Int) + 1))))) p = some (.lst ([if k < t.nots then ("not" : Str) else z].map V.str)) := by
    rw [show (((k : Nat) : Int) + 1) = (((k + 1 : Nat)) : Int) by omega, cutV_win _ _ _ (by omega), ← List.map_take, ← List.map_drop, take_drop_one hget]
    exact upd_same
  generalize upd H1 p (.lst (cutV (t.words.map V.str) (some ((k : Nat) : Int)) (some (((k : Nat) : Int) + 1)))) = H2 at s2 hp2 ⊢
  refine ⟨by show 1 ≤ sizeLine; decide, fun b hb => ?_⟩
  have s3 : Same H2 (upd H2 b (.lst [.str "not"])) := same_upd hb
  refine ⟨p, b, _, [("not" : Str)], rfl, rfl, s3 _ _ hp2, upd_same, _, rfl, ?_⟩
  have s4 := s2.trans s3
  generalize upd H2 b (.lst [.str "not"]) = H3 at s4 ⊢
  by_cases h : k < t.nots
  · rw [if_pos h]
    refine iteDt rfl ⟨_, fun _ _ h => h, ?_⟩
    exact ⟨_, rfl, _, _, rfl, rfl, m - 1, by omega, s4, k + 1, o2, o3, rfl, by omega⟩
  · rw [if_neg h]
    have e : k = t.nots := by omega
    refine iteDf (fun z => hzn (List.cons.inj z).1) ?_
    refine ⟨_, rfl, _, rfl, _, rfl, a, _, rfl, .of (s4 _ _ ha), fun c hc => ?_⟩
    have s5 : Same H (upd H3 c (.lst (cutV (t.words.map V.str) (some ((k : Nat) : Int)) none))) := s4.trans (same_upd hc)
    have hc2 : (upd H3 c (.lst (cutV (t.words.map V.str) (some ((k : Nat) : Int)) none))) c = some (.lst (t.base.words.map V.str)) := by
      rw [cutV_from, ← List.map_drop, hws, e, List.drop_left' (by rw [List.length_replicate])]
      exact upd_same
    generalize upd H3 c (.lst (cutV (t.words.map V.str) (some ((k : Nat) : Int)) none)) = H4 at s5 hc2 ⊢
    refine ⟨t.base, c, rfl, hc2, hf.1, fun v H5 s6 hv => ?_⟩
    refine ⟨_, rfl, .pl t.base, v, rfl, hv, ⟨hf.1, Nat.zero_le _⟩, fun H6 s7 hvn => ⟨true, rfl, iteF ?_⟩⟩
    have s8 : Same H H6 := (s5.trans s6).trans s7
    have hv6 := hv.same s7
    refine ⟨_, rfl, (k : Nat), rfl, by omega, by omega, ?_⟩
    refine for_it (walk_range (lo := 0) (n := k)) (fun i σ H' => Same H H' ∧ ∃ (u : V) (o3 : Option V), σ = [some (.ref a), some (.int (k : Nat)), some u, o3] ∧ Rp H' (nest i (.pl t.base)).enc u) ?_ (fun _ _ _ _ _ => trivial) (fun i x σ H7 H9 hi hp hy => ?_) (fun σ H7 hp => ?_)
    · exact ⟨s8, v, _, rfl, hv6⟩
    · obtain ⟨s9, u, o3, rfl, hu⟩ := hp
      obtain ⟨rfl, rfl⟩ := hy
      refine ⟨_, rfl, by show 2 ≤ sizeLine; decide, fun y hy => ?_⟩
      exact ⟨s9.trans (same_upd hy), .ref y, _, rfl, Rp.new (ds := [.str "not", (nest i (.pl t.base)).enc]) hy ⟨_, _, rfl, rfl, _, _, rfl, hu, rfl⟩⟩
    · obtain ⟨s9, u, o3, rfl, hu⟩ := hp
      rw [e, nest_eq] at hu
      refine ⟨_, rfl, q u H7 s9 hu ?_⟩
      rintro rfl
      cases t <;> (obtain ⟨a, xs, e, _⟩ := hu; cases e)
end
end NP
/-! NPLine3 -/
namespace NP
open PySem PySem.Spec PyProof.Rows L2 TL
theorem inter_len (x : Str) : ∀ l : List Str, (l.intersperse x).length ≤ 2 * l.length
  | [] => Nat.zero_le _
  | [a] => by show 1 ≤ 2 * 1; omega
  | a :: b :: r => by
    have := inter_len x (b :: r)
    show (a :: x :: (b :: r).intersperse x).length ≤ _
    simp only [List.length_cons] at this ⊢
    omega
theorem inter_mem (x : Str) : ∀ (l : List Str) (z : Str), z ∈ l.intersperse x → z = x ∨ z ∈ l
  | [], z, h => by cases h
  | [a], z, h => .inr h
  | a :: b :: r, z, h => by
    have h : z ∈ a :: x :: (b :: r).intersperse x := h
    rcases List.mem_cons.mp h with e | h
    · exact .inr (by rw [e]; simp)
    · rcases List.mem_cons.mp h with e | h
      · exact .inl e
      · exact (inter_mem x (b :: r) z h).imp id (List.mem_cons_of_mem _)
theorem polyWords_len {p : Poly} (h : PolyOk p) : (polyWords p).length ≤ 8 ∧ ∀ z ∈ polyWords p, z.length ≤ 30 := by
  unfold polyWords
  by_cases h0 : p = []
  · rw [if_pos h0]
    exact ⟨by decide, fun z hz => by rw [List.mem_singleton.mp hz]; decide +kernel⟩
  · rw [if_neg h0]
    have h1 := inter_len "+" (p.reverse.map textPair)
    rw [List.length_map, List.length_reverse] at h1
    have h2 := h.len
    refine ⟨by omega, fun z hz => ?_⟩
    rcases inter_mem _ _ _ hz with e | hz
    · rw [e]; decide +kernel
    · obtain ⟨q, hq, rfl⟩ := List.mem_map.mp hz
      have := h.2 q (List.mem_reverse.mp hq)
      exact tp_len this.1 this.2.2
theorem poly_join (p : Poly) : Txt.join " " (polyWords p) = textPoly p := by
  rw [join_eq]
  exact jn_poly p
section
variable {P : Program} {w : World} {K : PySem.W.Frag} {mg : Str → Option Value} {base : Heap}
theorem cell_lit {a i z : Str} (h : 91 ∉ tl z) : cellS a i ≠ z := fun e => h (e ▸ cell_mem a i)
theorem nm_lits {z : Str} (h : Nm z) : z ≠ "0" ∧ z ≠ "empty" ∧ z ≠ "wins" := (by decide +kernel : ∀ z ∈ allNames, z ≠ "0" ∧ z ≠ "empty" ∧ z ≠ "wins") z h
theorem lt_lits {z : Str} (h : Lt z) : z ≠ "empty" ∧ 91 ∉ tl z := (by decide +kernel : ∀ z ∈ letters4, z ≠ "empty" ∧ 91 ∉ tl z) z h
def sp_assignment_of : Sp := fun vs H Q _ => ∃ (s : Si) (pl th : Str), vs = [.str pl, .str th] ∧ s.words = [pl, "=", th] ∧ s.fit ∧ ∀ v H', Same H H' → Rp H' (encWs s.ws) v → Q v H'
abbrev nn_assignment_of : List Str := ["place", "thing"]
theorem sc_assignment_of : FnScope nn_assignment_of ["place", "thing"] d_assignment_of.scope := ⟨rfl, rfl, rfl, by decide +kernel, rfl, by decide +kernel, by decide +kernel⟩
theorem ok_assignment_of (T : Top w K mg) : OK P w K mg base 2 "assignment_of" ["place", "thing"] sp_assignment_of := by
  refine Has.ok (d := d_assignment_of) (T.has 29 36 rfl rfl rfl rfl rfl) sc_assignment_of (fun _ _ _ _ _ _ us hl => match us, hl with | [_, _], _ => rfl) (by rintro _ _ _ _ ⟨_, _, _, rfl, _⟩; rfl) (fun f cdv A outer s H vs Q E hRm h => ?_)
  obtain ⟨s, pl, th, rfl, hw, hf, q⟩ := h
  refine ⟨_, (pss_cons (ps_if (pt_cmpR op_notIn_sign pe_str (pv 0) (by rfl)) (pss_one (ps_ret (pe_ifExp (pt_cmpR op_eq (pv 1) pe_str (nomark _)) (pe_tup (pa_cons pe_str (pa_cons (pv 0) pa_nil))) (pe_tup (pa_cons pe_str (pa_cons (pv 0) (pa_cons (pv 1) pa_nil))))))) pss_nil)
    (pss_cons (ps_if (pt_cmpR op_eq (pv 1) pe_str (nomark _)) (pss_one (ps_ret (pe_op catT (pe_tup (pa_cons pe_str pa_nil)) (pe_c (ok_cell_of T) (hRm.mono (by decide)) (by rfl) (pa_cons (pv 0) pa_nil))))) pss_nil)
    (pss_cons (ps_if (pt_cmpR op_in_sign pe_str (pv 1) (by rfl)) (pss_one (ps_ret (pe_op catT (pe_op catT (pe_tup (pa_cons pe_str pa_nil)) (pe_c (ok_cell_of T) (hRm.mono (by decide)) (by rfl) (pa_cons (pv 0) pa_nil))) (pe_c (ok_cell_of T) (hRm.mono (by decide)) (by rfl) (pa_cons (pv 1) pa_nil))))) pss_nil)
    (pss_one (ps_ret (pe_op catT (pe_op catT (pe_tup (pa_cons pe_str pa_nil)) (pe_c (ok_cell_of T) (hRm.mono (by decide)) (by rfl) (pa_cons (pv 0) pa_nil))) (pe_tup (pa_cons (pv 1) pa_nil)))))))), ?_⟩
  have hl := Parts.lens hf
  have hpu := Parts.pure hf
  refine ⟨_, rfl, 91, pl, by rw [lbE], rfl, _, rfl, ?_⟩
  have h0 : 91 ∉ tl ("empty" : Str) := by decide +kernel
  cases s <;> simp only [Si.args, Si.words, List.mem_cons, List.not_mem_nil, or_false, forall_eq_or_imp, forall_eq, List.cons.injEq, and_true, true_and, reduceCtorEq, false_and, and_false] at hl hpu hw
  case set a i x =>
    obtain ⟨rfl, rfl⟩ := hw
    have hx : Lt x := hf.2.2.1
    refine iteNf (cell_mem a i) ⟨_, rfl, rfl, _, rfl, iteDf (vs_ne (lt_lits hx).1) ?_⟩
    refine ⟨_, rfl, 91, x, by rw [lbE], rfl, _, rfl, iteDf (lt_lits hx).2 ?_⟩
    refine ⟨by show 1 ≤ sizeLine; decide, fun t ht => ⟨_, rfl, a, i, rfl, hpu.1.1, hl.1, hl.2.1, fun c H1 s1 hc => ?_⟩⟩
    have ht1 := s1 _ _ (show (upd H t (.tup [.str "set"])) t = some _ from upd_same)
    refine ⟨t, c, _, _, rfl, rfl, ht1, hc, by show 3 ≤ sizeLine; decide, fun r H2 s2 hr => ?_⟩
    refine ⟨_, rfl, by show 1 ≤ sizeLine; decide, fun t2 ht2 => ?_⟩
    have hr2 := same_upd (o := .tup [.str x]) ht2 _ _ hr
    refine ⟨r, t2, _, _, rfl, rfl, hr2, upd_same, by show 4 ≤ sizeLine; decide, fun r2 H3 s3 hr3 => ?_⟩
    exact q _ _ (((((same_upd ht).trans s1).trans s2).trans (same_upd ht2)).trans s3) ⟨r2, _, rfl, hr3, RpL.ofStrs ["set", a, i, x]⟩
  case copy a i b j =>
    obtain ⟨rfl, rfl⟩ := hw
    refine iteNf (cell_mem a i) ⟨_, rfl, rfl, _, rfl, iteDf (vs_ne (cell_lit h0)) ?_⟩
    refine ⟨_, rfl, 91, _, by rw [lbE], rfl, _, rfl, iteDt (cell_mem b j) ?_⟩
    refine ⟨by show 1 ≤ sizeLine; decide, fun t ht => ⟨_, rfl, a, i, rfl, hpu.1.1, hl.1, hl.2.1, fun c H1 s1 hc => ?_⟩⟩
    have ht1 := s1 _ _ (show (upd H t (.tup [.str "copy"])) t = some _ from upd_same)
    refine ⟨t, c, _, _, rfl, rfl, ht1, hc, by show 3 ≤ sizeLine; decide, fun r H2 s2 hr => ?_⟩
    refine ⟨_, rfl, b, j, rfl, hpu.2.2.1.1, hl.2.2.1, hl.2.2.2, fun c2 H3 s3 hc2 => ?_⟩
    refine ⟨r, c2, _, _, rfl, rfl, s3 _ _ hr, hc2, by show 5 ≤ sizeLine; decide, fun r2 H4 s4 hr3 => ?_⟩
    exact q _ _ (((((same_upd ht).trans s1).trans s2).trans s3).trans s4) ⟨r2, _, rfl, hr3, RpL.ofStrs ["copy", a, i, b, j]⟩
  case clear a i =>
    obtain ⟨rfl, rfl⟩ := hw
    refine iteNf (cell_mem a i) ⟨_, rfl, rfl, _, rfl, iteDt rfl ?_⟩
    refine ⟨by show 1 ≤ sizeLine; decide, fun t ht => ⟨_, rfl, a, i, rfl, hpu.1.1, hl.1, hl.2, fun c H1 s1 hc => ?_⟩⟩
    have ht1 := s1 _ _ (show (upd H t (.tup [.str "clear"])) t = some _ from upd_same)
    refine ⟨t, c, _, _, rfl, rfl, ht1, hc, by show 3 ≤ sizeLine; decide, fun r H2 s2 hr => ?_⟩
    exact q _ _ (((same_upd ht).trans s1).trans s2) ⟨r, _, rfl, hr, RpL.ofStrs ["clear", a, i]⟩
  case zero i =>
    obtain ⟨rfl, rfl⟩ := hw
    refine iteNt hpu.1 ⟨_, rfl, rfl, _, rfl, iteDt rfl ?_⟩
    exact ⟨_, rfl, by show 2 ≤ sizeLine; decide, fun t ht => q _ _ (same_upd ht) ⟨t, _, rfl, upd_same, RpL.ofStrs ["zero", i]⟩⟩
  case same i j =>
    obtain ⟨rfl, rfl⟩ := hw
    have hj : Nm j := hf.2.1
    refine iteNt hpu.1.1 ⟨_, rfl, rfl, _, rfl, iteDf (vs_ne (nm_lits hj).1) ?_⟩
    exact ⟨_, rfl, _, rfl, by show 3 ≤ sizeLine; decide, fun t ht => q _ _ (same_upd ht) ⟨t, _, rfl, upd_same, RpL.ofStrs ["same", i, j]⟩⟩
def sp_simple_of : Sp := fun vs H Q _ => ∃ (s : Si) (a : Addr), vs = [.ref a] ∧ H a = some (.lst (s.words.map V.str)) ∧ s.fit ∧ ∀ v H', Same H H' → Rp H' (encWs s.ws) v → Q v H'
abbrev nn_simple_of : List Str := ["words", "index", "name", "player", "place", "thing", "letters"]
theorem sc_simple_of : FnScope nn_simple_of ["words"] d_simple_of.scope := ⟨rfl, rfl, rfl, by decide +kernel, rfl, by decide +kernel, by decide +kernel⟩
theorem ok_simple_of (T : Top w K mg) : OK P w K mg base 3 "simple_of" ["words"] sp_simple_of := by
  refine Has.ok (d := d_simple_of) (T.has 30 37 rfl rfl rfl rfl rfl) sc_simple_of (fun _ _ _ _ _ _ us hl => match us, hl with | [_], _ => rfl) (by rintro _ _ _ _ ⟨_, _, rfl, _⟩; rfl) (fun f cdv A outer s H vs Q E hRm h => ?_)
  obtain ⟨s, a, rfl, ha, hf, q⟩ := h
  refine ⟨_, (pss_cons (ps_match (pv 0) (mcs_cons rfl sc_simple_of.nd (mps_str (mps_cap (i := 1) rfl rfl mps_nil)) (pss_one (ps_ret (pe_tup (pa_cons pe_str (pa_cons (pv 1) pa_nil)))))
      (mcs_cons rfl sc_simple_of.nd (mps_str (mps_cap (i := 1) rfl rfl mps_nil)) (pss_one (ps_ret (pe_tup (pa_cons pe_str (pa_cons (pv 1) pa_nil)))))
      (mcs_cons rfl sc_simple_of.nd (mps_str (mps_cap (i := 2) rfl rfl mps_nil)) (pss_one (ps_ret (pe_tup (pa_cons pe_str (pa_cons (pv 2) pa_nil)))))
      (mcs_cons rfl sc_simple_of.nd (mps_cap (i := 3) rfl rfl (mps_str mps_nil)) (pss_one (ps_ret (pe_tup (pa_cons pe_str (pa_cons (pv 3) pa_nil)))))
      (mcs_cons rfl sc_simple_of.nd (mps_cap (i := 4) rfl rfl (mps_str (mps_cap (i := 5) rfl rfl mps_nil))) (pss_one (ps_ret (pe_c (ok_assignment_of T) (hRm.mono (by decide)) (by rfl) (pa_cons (pv 4) (pa_cons (pv 5) pa_nil)))))
      (mcs_cons rfl sc_simple_of.nd (mps_cap (i := 3) rfl rfl (mps_str (mps_cap (i := 4) rfl rfl (mps_str (mps_cap (i := 6) rfl rfl mps_nil))))) (pss_one (ps_ret (pe_op catT (pe_op catT (pe_tup (pa_cons pe_str (pa_cons (pv 3) pa_nil))) (pe_c (ok_cell_of T) (hRm.mono (by decide)) (by rfl) (pa_cons (pv 4) pa_nil))) (pe_tup (pa_cons (pv 6) pa_nil)))))
      mcs_nil)))))))
    (pss_one (ps_ret (pe_tup pa_nil)))), ?_⟩
  have hl := Parts.lens hf
  have hpu := Parts.pure hf
  refine ⟨_, rfl, a, s.words, rfl, .inl (.of ha), ?_⟩
  cases s <;> simp only [Si.args, List.mem_cons, List.not_mem_nil, or_false, forall_eq_or_imp, forall_eq] at hl hpu
  case up i =>
    refine .inr (.inr ⟨_, .val (.cap .nil), ?_⟩)
    exact ⟨_, rfl, by show 2 ≤ sizeLine; decide, fun t ht => q _ _ (same_upd ht) ⟨t, _, rfl, upd_same, RpL.ofStrs ["up", i]⟩⟩
  case down i =>
    refine .inr (.inl ⟨.here (by decide +kernel), rfl, .inr (.inr ⟨_, .val (.cap .nil), ?_⟩)⟩)
    exact ⟨_, rfl, by show 2 ≤ sizeLine; decide, fun t ht => q _ _ (same_upd ht) ⟨t, _, rfl, upd_same, RpL.ofStrs ["down", i]⟩⟩
  case go p =>
    refine .inr (.inl ⟨.here (by decide +kernel), rfl, .inr (.inl ⟨.here (by decide +kernel), rfl, .inr (.inr ⟨_, .val (.cap .nil), ?_⟩)⟩)⟩)
    exact ⟨_, rfl, by show 2 ≤ sizeLine; decide, fun t ht => q _ _ (same_upd ht) ⟨t, _, rfl, upd_same, RpL.ofStrs ["do", p]⟩⟩
  case wins pl =>
    have hpl : Pla pl := hf.1
    have hne : pl ≠ "up" ∧ pl ≠ "down" ∧ pl ≠ "do" := by rcases hpl with rfl | rfl <;> decide +kernel
    refine .inr (.inl ⟨.here hne.1, rfl, .inr (.inl ⟨.here hne.2.1, rfl, .inr (.inl ⟨.here hne.2.2, rfl, .inr (.inr ⟨_, .cap (.val .nil), ?_⟩)⟩)⟩)⟩)
    exact ⟨_, rfl, by show 2 ≤ sizeLine; decide, fun t ht => q _ _ (same_upd ht) ⟨t, _, rfl, upd_same, RpL.ofStrs ["wins", pl]⟩⟩
  case choose pl x i ls =>
    refine .inl ⟨by simp [Si.words], .inl ⟨by simp [Si.words], .inl ⟨by simp [Si.words], .inl ⟨by simp [Si.words], .inl ⟨by simp [Si.words], .inr (.inr ⟨_, .cap (.val (.cap (.val (.cap .nil)))), ?_⟩)⟩⟩⟩⟩⟩
    refine ⟨_, rfl, by show 2 ≤ sizeLine; decide, fun t ht => ⟨_, rfl, x, i, rfl, hpu.2.1.1, hl.2.1, hl.2.2.1, fun c H1 s1 hc => ?_⟩⟩
    have ht1 := s1 _ _ (show (upd H t (.tup [.str "choose", .str pl])) t = some _ from upd_same)
    refine ⟨t, c, _, _, rfl, rfl, ht1, hc, by show 4 ≤ sizeLine; decide, fun r H2 s2 hr => ?_⟩
    refine ⟨_, rfl, by show 1 ≤ sizeLine; decide, fun t2 ht2 => ?_⟩
    have hr2 := same_upd (o := .tup [.str ls]) ht2 _ _ hr
    refine ⟨r, t2, _, _, rfl, rfl, hr2, upd_same, by show 5 ≤ sizeLine; decide, fun r2 H3 s3 hr3 => ?_⟩
    exact q _ _ (((((same_upd ht).trans s1).trans s2).trans (same_upd ht2)).trans s3) ⟨r2, _, rfl, hr3, RpL.ofStrs ["choose", pl, x, i, ls]⟩
  case set x i z =>
    refine .inl ⟨by simp [Si.words], .inl ⟨by simp [Si.words], .inl ⟨by simp [Si.words], .inl ⟨by simp [Si.words], .inr (.inr ⟨_, .cap (.val (.cap .nil)), ?_⟩)⟩⟩⟩⟩
    exact ⟨_, rfl, _, rfl, .set x i z, _, _, rfl, rfl, hf, q⟩
  case copy x i z j =>
    refine .inl ⟨by simp [Si.words], .inl ⟨by simp [Si.words], .inl ⟨by simp [Si.words], .inl ⟨by simp [Si.words], .inr (.inr ⟨_, .cap (.val (.cap .nil)), ?_⟩)⟩⟩⟩⟩
    exact ⟨_, rfl, _, rfl, .copy x i z j, _, _, rfl, rfl, hf, q⟩
  case clear x i =>
    refine .inl ⟨by simp [Si.words], .inl ⟨by simp [Si.words], .inl ⟨by simp [Si.words], .inl ⟨by simp [Si.words], .inr (.inr ⟨_, .cap (.val (.cap .nil)), ?_⟩)⟩⟩⟩⟩
    exact ⟨_, rfl, _, rfl, .clear x i, _, _, rfl, rfl, hf, q⟩
  case zero i =>
    refine .inl ⟨by simp [Si.words], .inl ⟨by simp [Si.words], .inl ⟨by simp [Si.words], .inl ⟨by simp [Si.words], .inr (.inr ⟨_, .cap (.val (.cap .nil)), ?_⟩)⟩⟩⟩⟩
    exact ⟨_, rfl, _, rfl, .zero i, _, _, rfl, rfl, hf, q⟩
  case same i j =>
    refine .inl ⟨by simp [Si.words], .inl ⟨by simp [Si.words], .inl ⟨by simp [Si.words], .inl ⟨by simp [Si.words], .inr (.inr ⟨_, .cap (.val (.cap .nil)), ?_⟩)⟩⟩⟩⟩
    exact ⟨_, rfl, _, rfl, .same i j, _, _, rfl, rfl, hf, q⟩
def sp_read_simple : Sp := fun vs H Q _ => ∃ (s : Si) (a : Addr), vs = [.ref a] ∧ H a = some (.lst (s.words.map V.str)) ∧ s.fit ∧ ∀ v H', Same H H' → Rp H' (Cmd.si s).enc v → v ≠ .non → Q v H'
abbrev nn_read_simple : List Str := ["words", "command"]
theorem sc_read_simple : FnScope nn_read_simple ["words"] d_read_simple.scope := ⟨rfl, rfl, rfl, by decide +kernel, rfl, by decide +kernel, by decide +kernel⟩
theorem ok_read_simple (T : Top w K mg) : OK P w K mg base 10 "read_simple" ["words"] sp_read_simple := by
  refine Has.ok (d := d_read_simple) (T.has 31 38 rfl rfl rfl rfl rfl) sc_read_simple (fun _ _ _ _ _ _ us hl => match us, hl with | [_], _ => rfl) (by rintro _ _ _ _ ⟨_, _, rfl, _⟩; rfl) (fun f cdv A outer s H vs Q E hRm h => ?_)
  obtain ⟨s, a, rfl, ha, hf, q⟩ := h
  refine ⟨_, (pss_cons (ps_set (i := 1) sc_read_simple.nd rfl (.inl rfl) (pe_c (ok_simple_of T) (hRm.mono (by decide)) (by rfl) (pa_cons (pv 0) pa_nil)))
    (pss_one (ps_ret (pe_ifExp (pt_val (pe_c (ok_is_command_value T) (hRm.mono (by decide)) (by rfl) (pa_cons (pv 1) pa_nil))) (pv 1) pe_non)))), ?_⟩
  refine ⟨_, rfl, s, a, rfl, ha, hf, fun v H1 s1 hv => ?_⟩
  have hv2 : Rp H1 (Cmd.si s).enc v := hv
  refine ⟨_, rfl, .si s, v, rfl, hv2, hf, by show 1 ≤ 1000; decide, fun H2 s2 => ⟨true, rfl, iteT ⟨_, rfl, q v H2 (s1.trans s2) (hv2.same s2) ?_⟩⟩⟩
  rintro rfl
  obtain ⟨a, xs, e, _⟩ := hv
  cases e
def sp_read_size : Sp := fun vs H Q _ => ∃ (n w0 w2 : Str) (p : Poly) (a : Addr), vs = [.ref a] ∧ H a = some (.lst ((w0 :: n :: w2 :: polyWords p).map V.str)) ∧ ((w0 = "tape" ∧ w2 = "size") ∨ (w0 = "index" ∧ w2 = "to")) ∧ Nm n ∧ PolyOk p ∧ ∀ v H', Same H H' → Rp H' (encH (n, p)) v → v ≠ .non → Q v H'
abbrev nn_read_size : List Str := ["words", "poly"]
theorem sc_read_size : FnScope nn_read_size ["words"] d_read_size.scope := ⟨rfl, rfl, rfl, by decide +kernel, rfl, by decide +kernel, by decide +kernel⟩
theorem ok_read_size (T : Top w K mg) : OK P w K mg base 5 "read_size" ["words"] sp_read_size := by
  refine Has.ok (d := d_read_size) (T.has 32 39 rfl rfl rfl rfl rfl) sc_read_size (fun _ _ _ _ _ _ us hl => match us, hl with | [_], _ => rfl) (by rintro _ _ _ _ ⟨_, _, _, _, _, rfl, _⟩; rfl) (fun f cdv A outer s H vs Q E hRm h => ?_)
  obtain ⟨n, w0, w2, p, a, rfl, ha, hw, hn, hp, q⟩ := h
  obtain ⟨es, nn, kd_SIZE_WORDS⟩ := T.tab 2
  refine ⟨_, (pss_cons (ps_if (PW.pt (pw_or (pt_cmpR op_lt (pe_callB lenA (by rfl) (T.free 92) (by decide +kernel) (pa_cons (pv 0) pa_nil)) pe_int (nomark _)) (pw_or (pt_cmpR op_ne (pe_kget1 kd_SIZE_WORDS (pe_gr (T.glo 32) rfl) (pe_ix ixL (pv 0) pe_int (fun _ _ => rfl)) ⟨rfl, rfl, rfl, rfl⟩) (pe_ix ixL (pv 0) pe_int (fun _ _ => rfl)) (nomark _)) (pw_or1 (pt_not (pt_val (pe_c (ok_is_name_value T) (hRm.mono (by decide)) (by rfl) (pa_cons (pe_ix ixL (pv 0) pe_int (fun _ _ => rfl)) pa_nil)))))))) (pss_one (ps_ret pe_non)) pss_nil)
    (pss_cons (ps_set (i := 1) sc_read_size.nd rfl (.inl rfl) (pe_c (ok_poly_with_text T) (hRm.mono (by decide)) (by rfl) (pa_cons (pe_join pe_str (pe_slice sl_list (pv 0) (po_some pe_int) po_none)) pa_nil)))
    (pss_one (ps_ret (pe_ifExp (pt_cmpR op_isN (pv 1) pe_non (nomark _)) pe_non (pe_tup (pa_cons (pe_ix ixL (pv 0) pe_int (fun _ _ => rfl)) (pa_cons (pv 1) pa_nil)))))))), ?_⟩
  have hpw : 1 ≤ (polyWords p).length := List.length_pos_iff.mpr (poly_ne p)
  have hk : ∃ u, PySem.W.nsIn K (He.ga K "SIZE_WORDS") w0 = some (some u) ∧ L2.RelV (.str w2) u := by
    rcases hw with ⟨rfl, rfl⟩ | ⟨rfl, rfl⟩
    · exact T.strE 0
    · exact T.strE 1
  refine ⟨_, rfl, a, _, rfl, .inr ha, _, _, rfl, rfl, _, rfl, iteDf (by simp; omega) ?_⟩
  refine ⟨_, rfl, a, _, 0, _, rfl, rfl, ha, rfl, w0, some (.str w2), rfl, hk, _, rfl, a, _, 2, _, rfl, rfl, ha, rfl, rfl, _, rfl, iteNf rfl ?_⟩
  refine ⟨_, rfl, a, _, 1, _, rfl, rfl, ha, rfl, n, rfl, hn, fun H1 s1 => ⟨true, rfl, iteF ?_⟩⟩
  have ha1 := s1 _ _ ha
  obtain ⟨hw1, hw2⟩ := polyWords_len hp
  refine ⟨⟨_, rfl⟩, _, rfl, 3, rfl, a, _, rfl, .of ha1, fun c hc => ?_⟩
  have s2 : Same H (upd H1 c (.lst (cutV ((w0 :: n :: w2 :: polyWords p).map V.str) (some 3) none))) := s1.trans (same_upd hc)
  have hc2 : (upd H1 c (.lst (cutV ((w0 :: n :: w2 :: polyWords p).map V.str) (some 3) none))) c = some (.lst ((polyWords p).map V.str)) := by
    rw [show (3 : Int) = ((3 : Nat) : Int) from rfl, cutV_from, ← List.map_drop]
    exact upd_same
  generalize upd H1 c (.lst (cutV ((w0 :: n :: w2 :: polyWords p).map V.str) (some 3) none)) = H2 at s2 hc2 ⊢
  refine ⟨_, c, polyWords p, rfl, rfl, .inl (.of hc2), ?_, ?_⟩
  · have e : (" " : Str).length = 1 := by decide +kernel
    rw [e]
    exact join_fits hw2 hw1 (by decide)
  rw [poly_join]
  refine ⟨p, rfl, hp, fun v H3 s3 hv hvn => ?_⟩
  refine ⟨_, rfl, rfl, _, rfl, iteDf hvn ?_⟩
  have s4 := s2.trans s3
  refine ⟨_, rfl, a, _, 1, _, rfl, rfl, s4 _ _ ha, rfl, _, rfl, by show 2 ≤ sizeLine; decide, fun t ht => ?_⟩
  exact q (.ref t) _ (s4.trans (same_upd ht)) (Rp.new (ds := [.str n, encP p]) ht ⟨_, _, rfl, rfl, _, _, rfl, hv, rfl⟩) (by intro z; cases z)
end
end NP
/-! NPPart -/
namespace NP
open PySem PySem.Spec PyProof.Rows L2 TL
/-! ## the reader's state -/
inductive Hd where
  | pr (n : Str) | if_ (t : Tst) | re (p : Poly)
def Hd.kind : Hd → Str
  | .pr _ => "procedure" | .if_ _ => "if" | .re _ => "repeat"
def Hd.enc : Hd → PyData
  | .pr n => .str n | .if_ t => t.enc | .re p => encP p
structure OPart where
  hd : Hd
  first : List Cmd
  others : List Cmd
  els : Bool
structure RSt where
  tapes : List (Str × Poly)
  idx : List (Str × Poly)
  procs : List (Str × List Cmd)
  stack : List OPart
def fldsP (k v : V) (f o : Addr) (b : Bool) : List (Str × V) := [("kind", k), ("head", v), ("first", .ref f), ("others", .ref o), ("has_else", .bl b)]
def fldsR (a b c d : Addr) : List (Str × V) := [("tapes", .ref a), ("indexes", .ref b), ("procedures", .ref c), ("open_parts", .ref d)]
theorem putF_ne {f g : Str} {v x : V} {r : List (Str × V)} (h : g ≠ f) : putF f v ((g, x) :: r) = (g, x) :: putF f v r := if_neg h
theorem putF_eq {f : Str} {v x : V} {r : List (Str × V)} : putF f v ((f, x) :: r) = (f, v) :: r := if_pos rfl
theorem flds_mk (k v : V) (f o : Addr) (b : Bool) : putF "has_else" (.bl b) (putF "others" (.ref o) (putF "first" (.ref f) (putF "head" v (putF "kind" k [])))) = fldsP k v f o b := by
  show putF "has_else" (.bl b) (putF "others" (.ref o) (putF "first" (.ref f) (putF "head" v [("kind", k)]))) = _
  rw [putF_ne (f := "head") (by decide +kernel)]
  show putF "has_else" (.bl b) (putF "others" (.ref o) (putF "first" (.ref f) [("kind", k), ("head", v)])) = _
  rw [putF_ne (f := "first") (by decide +kernel), putF_ne (f := "first") (by decide +kernel)]
  show putF "has_else" (.bl b) (putF "others" (.ref o) [("kind", k), ("head", v), ("first", .ref f)]) = _
  rw [putF_ne (f := "others") (by decide +kernel), putF_ne (f := "others") (by decide +kernel), putF_ne (f := "others") (by decide +kernel)]
  show putF "has_else" (.bl b) [("kind", k), ("head", v), ("first", .ref f), ("others", .ref o)] = _
  rw [putF_ne (by decide +kernel), putF_ne (by decide +kernel), putF_ne (by decide +kernel), putF_ne (by decide +kernel)]
  rfl
theorem flds_else (k v : V) (f o : Addr) (b : Bool) : putF "has_else" (.bl true) (fldsP k v f o b) = fldsP k v f o true := by
  unfold fldsP
  rw [putF_ne (by decide +kernel), putF_ne (by decide +kernel), putF_ne (by decide +kernel), putF_ne (by decide +kernel), putF_eq]
theorem fldsR_mk (a b c d : Addr) : putF "open_parts" (.ref d) (putF "procedures" (.ref c) (putF "indexes" (.ref b) (putF "tapes" (.ref a) []))) = fldsR a b c d := by
  show putF "open_parts" (.ref d) (putF "procedures" (.ref c) (putF "indexes" (.ref b) [("tapes", .ref a)])) = _
  rw [putF_ne (f := "indexes") (by decide +kernel)]
  show putF "open_parts" (.ref d) (putF "procedures" (.ref c) [("tapes", .ref a), ("indexes", .ref b)]) = _
  rw [putF_ne (f := "procedures") (by decide +kernel), putF_ne (f := "procedures") (by decide +kernel)]
  show putF "open_parts" (.ref d) [("tapes", .ref a), ("indexes", .ref b), ("procedures", .ref c)] = _
  rw [putF_ne (by decide +kernel), putF_ne (by decide +kernel), putF_ne (by decide +kernel)]
  rfl
theorem putF_lt {f : Str} {v : V} : ∀ {fs : List (Str × V)} {n : Nat}, fs.length ≤ n → (putF f v fs).length ≤ n + 1
  | [], n, _ => by show 1 ≤ n + 1; omega
  | (g, x) :: r, n, h => by
    rw [List.length_cons] at h
    unfold putF
    split
    · rw [List.length_cons]; omega
    · obtain ⟨m, rfl⟩ : ∃ m, n = m + 1 := ⟨n - 1, by omega⟩
      have := putF_lt (f := f) (v := v) (fs := r) (n := m) (by omega)
      rw [List.length_cons]
      omega
theorem lt1000 {fs : List (Str × V)} (h : fs.length ≤ 5) : fs.length < 1000 := by omega
abbrev Tri : Type := Addr × Addr × Addr
/-- an open part: the instance at t.1, its lists at t.2.1 and t.2.2 -/
structure PartAt (K : PySem.W.Frag) (H : Hp) (t : Tri) (p : OPart) : Prop where
  ob : ∃ dx v, H t.1 = some (.ins (He.ga K "OpenPart") dx (fldsP (.str p.hd.kind) v t.2.1 t.2.2 p.els)) ∧ Rp H p.hd.enc v ∧ v ≠ .non
  f : ∃ xs, H t.2.1 = some (.lst xs) ∧ RpL H (encs p.first) xs
  o : ∃ xs, H t.2.2 = some (.lst xs) ∧ RpL H (encs p.others) xs
theorem PartAt.keep {K : PySem.W.Frag} {H H' : Hp} {t : Tri} {p : OPart} (h : PartAt K H t p) (k : TK H H') (e1 : H' t.1 = H t.1) (e2 : H' t.2.1 = H t.2.1) (e3 : H' t.2.2 = H t.2.2) : PartAt K H' t p where
  ob := let ⟨dx, v, a, b, c⟩ := h.ob; ⟨dx, v, by rw [e1]; exact a, b.tk k, c⟩
  f := let ⟨xs, a, b⟩ := h.f; ⟨xs, by rw [e2]; exact a, b.tk k⟩
  o := let ⟨xs, a, b⟩ := h.o; ⟨xs, by rw [e3]; exact a, b.tk k⟩
theorem Same.at_ {H H' : Hp} (s : Same H H') {a : Addr} {o : HO} (h : H a = some o) : H' a = H a := by rw [h]; exact s _ _ h
theorem PartAt.same {K : PySem.W.Frag} {H H' : Hp} {t : Tri} {p : OPart} (h : PartAt K H t p) (s : Same H H') : PartAt K H' t p :=
  h.keep (same_tk s) (let ⟨_, _, a, _⟩ := h.ob; Same.at_ s a) (let ⟨_, a, _⟩ := h.f; Same.at_ s a) (let ⟨_, a, _⟩ := h.o; Same.at_ s a)
section
variable {P : Program} {w : World} {K : PySem.W.Frag} {mg : Str → Option Value} {base : Heap}
def sp_OpenPart__init (K : PySem.W.Frag) : Sp := fun vs H Q _ => ∃ (x dx : Addr) (k v : V), vs = [.ref x, k, v] ∧ H x = some (.ins (He.ga K "OpenPart") dx []) ∧
  ∀ f o H', SameX [x] H H' → H f = none → H o = none → f ≠ o → H' x = some (.ins (He.ga K "OpenPart") dx (fldsP k v f o false)) → H' f = some (.lst []) → H' o = some (.lst []) → Q .non H'
abbrev nn_OpenPart__init : List Str := ["self", "kind", "head"]
theorem sc_OpenPart__init : FnScope nn_OpenPart__init ["self", "kind", "head"] d_OpenPart__init.scope := ⟨rfl, rfl, rfl, by decide +kernel, rfl, by decide +kernel, by decide +kernel⟩
theorem ok_OpenPart__init (T : Top w K mg) : OKM P w K mg base 1 "OpenPart" "__init__" ["self", "kind", "head"] (sp_OpenPart__init K) := by
  refine HasM.ok (d := d_OpenPart__init) (T.hasM 33 rfl rfl rfl rfl) sc_OpenPart__init (fun _ _ _ _ _ _ us hl => match us, hl with | [_, _, _], _ => rfl) (by rintro _ _ _ _ ⟨_, _, _, _, rfl, _⟩; rfl) (fun f cdv A outer s H vs Q E hRm h => ?_)
  obtain ⟨x, dx, k, v, rfl, hx, q⟩ := h
  refine ⟨_, (pss_cons (ps_fld (pv 0) (pv 1) rfl)
    (pss_cons (ps_fld (pv 0) (pv 2) rfl)
    (pss_cons (ps_fld (pv 0) (pe_lst pa_nil) rfl)
    (pss_cons (ps_fld (pv 0) (pe_lst pa_nil) rfl)
    (pss_one (ps_fld (pv 0) pe_bl rfl)))))), ?_⟩
  refine ⟨_, rfl, _, rfl, x, _, dx, [], rfl, hx, T.cls 106, T.noat 108, by decide, ?_⟩
  refine ⟨_, rfl, _, rfl, x, _, dx, _, rfl, upd_same, T.cls 106, T.noat 109, lt1000 (putF_lt (Nat.zero_le _)), ?_⟩
  have s2 : SameX [x] H (upd (upd H x (.ins (He.ga K "OpenPart") dx (putF "kind" k []))) x (.ins (He.ga K "OpenPart") dx (putF "head" v (putF "kind" k [])))) := (samex_upd (by simp)).trans (samex_upd (by simp))
  have h2 : (upd (upd H x (.ins (He.ga K "OpenPart") dx (putF "kind" k []))) x (.ins (He.ga K "OpenPart") dx (putF "head" v (putF "kind" k [])))) x = some (.ins (He.ga K "OpenPart") dx (putF "head" v (putF "kind" k []))) := upd_same
  generalize upd (upd H x (.ins (He.ga K "OpenPart") dx (putF "kind" k []))) x (.ins (He.ga K "OpenPart") dx (putF "head" v (putF "kind" k []))) = H2 at s2 h2 ⊢
  refine ⟨by show 0 ≤ sizeLine; decide, fun f hf => ⟨_, rfl, x, _, dx, _, rfl, same_upd hf _ _ h2, T.cls 106, T.noat 110, lt1000 (putF_lt (putF_lt (Nat.zero_le _))), ?_⟩⟩
  have nfx : f ≠ x := Ne.symm (ne_of_none h2 hf)
  have hfH : H f = none := s2.free hf (by simp; exact nfx)
  have s3 : SameX [x] H (upd (upd H2 f (.lst [])) x (.ins (He.ga K "OpenPart") dx (putF "first" (.ref f) (putF "head" v (putF "kind" k []))))) := (s2.trans (samex_new hf)).trans (samex_upd (by simp))
  have h3 : (upd (upd H2 f (.lst [])) x (.ins (He.ga K "OpenPart") dx (putF "first" (.ref f) (putF "head" v (putF "kind" k []))))) x = some (.ins (He.ga K "OpenPart") dx (putF "first" (.ref f) (putF "head" v (putF "kind" k [])))) := upd_same
  have f3 : (upd (upd H2 f (.lst [])) x (.ins (He.ga K "OpenPart") dx (putF "first" (.ref f) (putF "head" v (putF "kind" k []))))) f = some (.lst []) := by rw [upd_ne nfx]; exact upd_same
  generalize upd (upd H2 f (.lst [])) x (.ins (He.ga K "OpenPart") dx (putF "first" (.ref f) (putF "head" v (putF "kind" k [])))) = H3 at s3 h3 f3 ⊢
  refine ⟨by show 0 ≤ sizeLine; decide, fun o ho => ⟨_, rfl, x, _, dx, _, rfl, same_upd ho _ _ h3, T.cls 106, T.noat 111, lt1000 (putF_lt (putF_lt (putF_lt (Nat.zero_le _)))), ?_⟩⟩
  have nox : o ≠ x := Ne.symm (ne_of_none h3 ho)
  have nof : f ≠ o := ne_of_none f3 ho
  have hoH : H o = none := s3.free ho (by simp; exact nox)
  refine ⟨_, rfl, x, _, dx, _, rfl, upd_same, T.cls 106, T.noat 112, lt1000 (putF_lt (putF_lt (putF_lt (putF_lt (Nat.zero_le _))))), ?_⟩
  rw [flds_mk]
  refine q f o _ (((s3.trans (samex_new ho)).trans (samex_upd (by simp))).trans (samex_upd (by simp))) hfH hoH nof upd_same ?_ ?_
  · rw [upd_ne nfx, upd_ne nfx, upd_ne nof]
    exact f3
  · rw [upd_ne nox, upd_ne nox]
    exact upd_same
/-- all that stands keeps, but what the part owns -/
def sp_OpenPart_take_inner (K : PySem.W.Frag) : Sp := fun vs H Q _ => ∃ (t : Tri) (p : OPart) (c : Cmd) (v : V), vs = [.ref t.1, v] ∧ PartAt K H t p ∧ t.2.1 ≠ t.1 ∧ t.2.2 ≠ t.1 ∧ t.2.1 ≠ t.2.2 ∧ Rp H c.enc v ∧ p.first.length ≤ 100000 ∧ p.others.length ≤ 100000 ∧
  ∀ H', SameX [t.2.1, t.2.2] H H' → TK H H' → PartAt K H' t (if p.els = true then { p with others := p.others ++ [c] } else { p with first := p.first ++ [c] }) → Q .non H'
abbrev nn_OpenPart_take_inner : List Str := ["self", "command"]
theorem sc_OpenPart_take_inner : FnScope nn_OpenPart_take_inner ["self", "command"] d_OpenPart_take_inner.scope := ⟨rfl, rfl, rfl, by decide +kernel, rfl, by decide +kernel, by decide +kernel⟩
theorem ok_OpenPart_take_inner (T : Top w K mg) : OKM P w K mg base 1 "OpenPart" "take_inner" ["self", "command"] (sp_OpenPart_take_inner K) := by
  refine HasM.ok (d := d_OpenPart_take_inner) (T.hasM 34 rfl rfl rfl rfl) sc_OpenPart_take_inner (fun _ _ _ _ _ _ us hl => match us, hl with | [_, _], _ => rfl) (by rintro _ _ _ _ ⟨_, _, _, _, rfl, _⟩; rfl) (fun f cdv A outer s H vs Q E hRm h => ?_)
  obtain ⟨t, p, c, v, rfl, hp, n1, n2, n3, hv, hl1, hl2, q⟩ := h
  obtain ⟨dx, hv0, hob, hh, hnn⟩ := hp.ob
  obtain ⟨fs, hf, hrf⟩ := hp.f
  obtain ⟨os, ho, hro⟩ := hp.o
  have e1 := RpL.len hrf
  have e2 := RpL.len hro
  rw [encs_map, List.length_map] at e1 e2
  have big : 200000 ≤ sizeLine := by decide
  refine ⟨_, (pss_one (ps_if (pt_val (pe_fld (pv 0) rfl)) (pss_one (ps_expr (pe_bm PySem.F.plainAttrs_list PySem.F.slot_list_append PySem.F.type_list_append mt_append (pe_fld (pv 0) rfl) (pa_cons (pv 1) pa_nil)))) (pss_one (ps_expr (pe_bm PySem.F.plainAttrs_list PySem.F.slot_list_append PySem.F.type_list_append mt_append (pe_fld (pv 0) rfl) (pa_cons (pv 1) pa_nil)))))), ?_⟩
  refine ⟨_, rfl, t.1, _, dx, _, _, rfl, hob, T.cls 106, T.noat 112, rfl, p.els, rfl, ?_⟩
  cases he : p.els with
  | true =>
    rw [he] at hob
    rw [if_pos he] at q
    refine iteT ?_
    refine ⟨_, rfl, t.1, _, dx, _, _, rfl, hob, T.cls 106, T.noat 111, rfl, .inl ⟨rfl, _, .of ho⟩, _, rfl, t.2.2, os, v, rfl, rfl, ho, by omega, ?_⟩
    have tk : TK H (upd H t.2.2 (.lst (os ++ [v]))) := tk_upd fun q z => by rw [ho] at z; cases z
    refine q _ (samex_upd (by simp)) tk ⟨⟨dx, hv0, ?_, hh.tk tk, hnn⟩, ⟨fs, ?_, hrf.tk tk⟩, ⟨_, upd_same, ?_⟩⟩
    · rw [upd_ne (Ne.symm n2)]
      show H t.1 = some (.ins _ dx (fldsP (.str p.hd.kind) hv0 t.2.1 t.2.2 p.els))
      rw [he]
      exact hob
    · rw [upd_ne n3]; exact hf
    · show RpL _ (encs (p.others ++ [c])) _
      rw [encs_app]
      exact RpL.app (hro.tk tk) ⟨v, [], rfl, hv.tk tk, rfl⟩
  | false =>
    rw [he] at hob
    rw [if_neg (by rw [he]; decide)] at q
    refine iteF ?_
    refine ⟨_, rfl, t.1, _, dx, _, _, rfl, hob, T.cls 106, T.noat 110, rfl, .inl ⟨rfl, _, .of hf⟩, _, rfl, t.2.1, fs, v, rfl, rfl, hf, by omega, ?_⟩
    have tk : TK H (upd H t.2.1 (.lst (fs ++ [v]))) := tk_upd fun q z => by rw [hf] at z; cases z
    refine q _ (samex_upd (by simp)) tk ⟨⟨dx, hv0, ?_, hh.tk tk, hnn⟩, ⟨_, upd_same, ?_⟩, ⟨os, ?_, hro.tk tk⟩⟩
    · rw [upd_ne (Ne.symm n1)]
      show H t.1 = some (.ins _ dx (fldsP (.str p.hd.kind) hv0 t.2.1 t.2.2 p.els))
      rw [he]
      exact hob
    · show RpL _ (encs (p.first ++ [c])) _
      rw [encs_app]
      exact RpL.app (hrf.tk tk) ⟨v, [], rfl, hv.tk tk, rfl⟩
    · rw [upd_ne (Ne.symm n3)]; exact ho
def sp_OpenPart_take_else (K : PySem.W.Frag) : Sp := fun vs H Q _ => ∃ (t : Tri) (p : OPart), vs = [.ref t.1] ∧ PartAt K H t p ∧ t.2.1 ≠ t.1 ∧ t.2.2 ≠ t.1 ∧ p.hd.kind = "if" ∧ p.els = false ∧
  ∀ H', SameX [t.1] H H' → TK H H' → PartAt K H' t { p with els := true } → Q (.bl true) H'
abbrev nn_OpenPart_take_else : List Str := ["self"]
theorem sc_OpenPart_take_else : FnScope nn_OpenPart_take_else ["self"] d_OpenPart_take_else.scope := ⟨rfl, rfl, rfl, by decide +kernel, rfl, by decide +kernel, by decide +kernel⟩
theorem ok_OpenPart_take_else (T : Top w K mg) : OKM P w K mg base 1 "OpenPart" "take_else" ["self"] (sp_OpenPart_take_else K) := by
  refine HasM.ok (d := d_OpenPart_take_else) (T.hasM 35 rfl rfl rfl rfl) sc_OpenPart_take_else (fun _ _ _ _ _ _ us hl => match us, hl with | [_], _ => rfl) (by rintro _ _ _ _ ⟨_, _, rfl, _⟩; rfl) (fun f cdv A outer s H vs Q E hRm h => ?_)
  obtain ⟨t, p, rfl, hp, n1, n2, hk, he, q⟩ := h
  obtain ⟨dx, hv0, hob, hh, hnn⟩ := hp.ob
  obtain ⟨fs, hf, hrf⟩ := hp.f
  obtain ⟨os, ho, hro⟩ := hp.o
  refine ⟨_, (pss_cons (ps_if (PW.pt (pw_or (pt_cmpR op_ne (pe_fld (pv 0) rfl) pe_str (nomark _)) (pw_or1 (pt_val (pe_fld (pv 0) rfl))))) (pss_one (ps_ret pe_bl)) pss_nil)
    (pss_cons (ps_fld (pv 0) pe_bl rfl)
    (pss_one (ps_ret pe_bl)))), ?_⟩
  have hob' := hob
  rw [hk, he] at hob'
  refine ⟨_, rfl, t.1, _, dx, _, _, rfl, hob', T.cls 106, T.noat 108, rfl, rfl, _, rfl, iteNf rfl ?_⟩
  refine ⟨_, rfl, t.1, _, dx, _, _, rfl, hob', T.cls 106, T.noat 112, rfl, false, rfl, iteF ?_⟩
  refine ⟨_, rfl, t.1, _, dx, _, rfl, hob', T.cls 106, T.noat 112, by show 5 < 1000; decide, ?_⟩
  rw [flds_else]
  have tk : TK H (upd H t.1 (.ins (He.ga K "OpenPart") dx (fldsP (.str "if") hv0 t.2.1 t.2.2 true))) := tk_upd fun q z => by rw [hob] at z; cases z
  refine q _ (samex_upd (by simp)) tk ⟨⟨dx, hv0, ?_, hh.tk tk, hnn⟩, ⟨fs, ?_, hrf.tk tk⟩, ⟨os, ?_, hro.tk tk⟩⟩
  · show _ = some (HO.ins _ dx (fldsP (.str p.hd.kind) hv0 t.2.1 t.2.2 true))
    rw [hk]
    exact upd_same
  · rw [upd_ne n1]; exact hf
  · rw [upd_ne n2]; exact ho
/-- what an ended part is -/
def Hd.done (h : Hd) (first others : List Cmd) : PyData := match h with
  | .pr n => encR (n, first)
  | .if_ t => (Cmd.if_ t first others).enc
  | .re p => (Cmd.re p first).enc
def sp_OpenPart_ended (K : PySem.W.Frag) : Sp := fun vs H Q _ => ∃ (t : Tri) (p : OPart), vs = [.ref t.1] ∧ PartAt K H t p ∧ ∀ v H', Same H H' → Rp H' (p.hd.done p.first p.others) v → Q v H'
abbrev nn_OpenPart_ended : List Str := ["self", "commands"]
theorem sc_OpenPart_ended : FnScope nn_OpenPart_ended ["self"] d_OpenPart_ended.scope := ⟨rfl, rfl, rfl, by decide +kernel, rfl, by decide +kernel, by decide +kernel⟩
theorem ok_OpenPart_ended (T : Top w K mg) : OKM P w K mg base 1 "OpenPart" "ended" ["self"] (sp_OpenPart_ended K) := by
  refine HasM.ok (d := d_OpenPart_ended) (T.hasM 36 rfl rfl rfl rfl) sc_OpenPart_ended (fun _ _ _ _ _ _ us hl => match us, hl with | [_], _ => rfl) (by rintro _ _ _ _ ⟨_, _, rfl, _⟩; rfl) (fun f cdv A outer s H vs Q E hRm h => ?_)
  obtain ⟨t, p, rfl, hp, q⟩ := h
  obtain ⟨dx, hv0, hob, hh, hnn⟩ := hp.ob
  obtain ⟨fs, hf, hrf⟩ := hp.f
  obtain ⟨os, ho, hro⟩ := hp.o
  refine ⟨_, (pss_cons (ps_set (i := 1) sc_OpenPart_ended.nd rfl (.inl rfl) (pe_callTy tupL (by rfl) (T.free 97) (by decide +kernel) (pa_cons (pe_fld (pv 0) rfl) pa_nil)))
    (pss_cons (ps_if (pt_cmpR op_eq (pe_fld (pv 0) rfl) pe_str (nomark _)) (pss_one (ps_ret (pe_tup (pa_cons (pe_fld (pv 0) rfl) (pa_cons (pv 1) pa_nil))))) pss_nil)
    (pss_cons (ps_if (pt_cmpR op_eq (pe_fld (pv 0) rfl) pe_str (nomark _)) (pss_one (ps_ret (pe_tup (pa_cons pe_str (pa_cons (pe_fld (pv 0) rfl) (pa_cons (pv 1) pa_nil)))))) pss_nil)
    (pss_one (ps_ret (pe_tup (pa_cons pe_str (pa_cons (pe_fld (pv 0) rfl) (pa_cons (pv 1) (pa_cons (pe_callTy tupL (by rfl) (T.free 97) (by decide +kernel) (pa_cons (pe_fld (pv 0) rfl) pa_nil)) pa_nil)))))))))), ?_⟩
  refine ⟨_, rfl, t.1, _, dx, _, _, rfl, hob, T.cls 106, T.noat 110, rfl, t.2.1, fs, rfl, hf, fun c hc => ?_⟩
  have s1 : Same H (upd H c (.tup fs)) := same_upd hc
  have hc1 : (upd H c (.tup fs)) c = some (.tup fs) := upd_same
  have hob1 := s1 _ _ hob
  have hrf1 := hrf.same s1
  have hh1 := hh.same s1
  generalize upd H c (.tup fs) = H1 at s1 hc1 hob1 hrf1 hh1 ⊢
  refine ⟨_, rfl, t.1, _, dx, _, _, rfl, hob1, T.cls 106, T.noat 108, rfl, rfl, _, rfl, ?_⟩
  cases hd : p.hd with
  | pr n =>
    rw [hd] at hob1 hh1 q
    refine iteDt rfl ⟨_, rfl, t.1, _, dx, _, _, rfl, hob1, T.cls 106, T.noat 109, rfl, _, rfl, by show 2 ≤ sizeLine; decide, fun r hr => ?_⟩
    have hh1 : Rp H1 (.str n) hv0 := hh1
    have s2 : Same H1 (upd H1 r (.tup [hv0, .ref c])) := same_upd hr
    exact q (.ref r) _ (s1.trans s2) (Rp.new (ds := [.str n, .tuple (encs p.first)]) hr ⟨_, _, rfl, hh1, _, _, rfl, ⟨c, fs, rfl, hc1, hrf1⟩, rfl⟩)
  | re pp =>
    rw [hd] at hob1 hh1 q
    refine iteDf (vs_ne (show ("repeat" : Str) ≠ "procedure" by decide +kernel)) ⟨_, rfl, t.1, _, dx, _, _, rfl, hob1, T.cls 106, T.noat 108, rfl, rfl, _, rfl, iteDt rfl ?_⟩
    refine ⟨_, rfl, t.1, _, dx, _, _, rfl, hob1, T.cls 106, T.noat 109, rfl, _, rfl, by show 3 ≤ sizeLine; decide, fun r hr => ?_⟩
    have hh1 : Rp H1 (encP pp) hv0 := hh1
    have s2 : Same H1 (upd H1 r (.tup [.str "repeat", hv0, .ref c])) := same_upd hr
    refine q (.ref r) _ (s1.trans s2) ?_
    show Rp _ (Cmd.re pp p.first).enc _
    unfold Cmd.enc
    exact Rp.new hr ⟨_, _, rfl, rfl, _, _, rfl, hh1, _, _, rfl, ⟨c, fs, rfl, hc1, hrf1⟩, rfl⟩
  | if_ tt =>
    rw [hd] at hob1 hh1 q
    refine iteDf (vs_ne (show ("if" : Str) ≠ "procedure" by decide +kernel)) ⟨_, rfl, t.1, _, dx, _, _, rfl, hob1, T.cls 106, T.noat 108, rfl, rfl, _, rfl, iteDf (vs_ne (show ("if" : Str) ≠ "repeat" by decide +kernel)) ?_⟩
    have hh1 : Rp H1 tt.enc hv0 := hh1
    refine ⟨_, rfl, t.1, _, dx, _, _, rfl, hob1, T.cls 106, T.noat 109, rfl, _, rfl, _, rfl, t.1, _, dx, _, _, rfl, hob1, T.cls 106, T.noat 111, rfl, t.2.2, os, rfl, s1 _ _ ho, fun c2 hc2 => ?_⟩
    have s2 : Same H1 (upd H1 c2 (.tup os)) := same_upd hc2
    have hc3 : (upd H1 c2 (.tup os)) c2 = some (.tup os) := upd_same
    have hc4 := s2 _ _ hc1
    have hrf2 := hrf1.same s2
    have hh2 := hh1.same s2
    have hro2 := (hro.same s1).same s2
    generalize upd H1 c2 (.tup os) = H2 at s2 hc3 hc4 hrf2 hh2 hro2 ⊢
    refine ⟨by show 4 ≤ sizeLine; decide, fun r hr => ?_⟩
    refine q (.ref r) _ ((s1.trans s2).trans (same_upd hr)) ?_
    show Rp _ (Cmd.if_ tt p.first p.others).enc _
    unfold Cmd.enc
    exact Rp.new hr ⟨_, _, rfl, rfl, _, _, rfl, hh2, _, _, rfl, ⟨c, fs, rfl, hc4, hrf2⟩, _, _, rfl, ⟨c2, os, rfl, hc3, hro2⟩, rfl⟩
end
end NP
/-! NPReader -/
namespace NP
open PySem PySem.Spec PyProof.Rows L2 TL
def triL (t : Tri) : List Addr := [t.1, t.2.1, t.2.2]
def triA (ts : List Tri) : List Addr := ts.flatMap triL
theorem triA_app (a b : List Tri) : triA (a ++ b) = triA a ++ triA b := List.flatMap_append
theorem triA_one (t : Tri) : triA [t] = triL t := by show triL t ++ [] = _; rw [List.append_nil]
def PsAt (K : PySem.W.Frag) (H : Hp) : List Tri → List OPart → Prop
  | [], [] => True
  | t :: ts, p :: ps => PartAt K H t p ∧ PsAt K H ts ps
  | _, _ => False
theorem PsAt.app {K : PySem.W.Frag} {H : Hp} : ∀ {ts us : List Tri} {ps qs : List OPart}, PsAt K H ts ps → PsAt K H us qs → PsAt K H (ts ++ us) (ps ++ qs)
  | [], _, [], _, _, r => r
  | _ :: _, _, _ :: _, _, h, r => ⟨h.1, PsAt.app h.2 r⟩
theorem PsAt.snoc {K : PySem.W.Frag} {H : Hp} : ∀ {ts : List Tri} {ps : List OPart} {p : OPart}, PsAt K H ts (ps ++ [p]) → ∃ us t, ts = us ++ [t] ∧ PsAt K H us ps ∧ PartAt K H t p
  | [t], [], p, h => ⟨[], t, rfl, trivial, h.1⟩
  | t :: u :: ts, [], p, h => h.2.elim
  | t :: ts, q :: ps, p, h => by
    obtain ⟨us, t', e, h1, h2⟩ := PsAt.snoc (ps := ps) h.2
    exact ⟨t :: us, t', by rw [e]; rfl, ⟨h.1, h1⟩, h2⟩
  | [], [], p, h => h.elim
  | [], _ :: _, p, h => h.elim
theorem PsAt.nil {K : PySem.W.Frag} {H : Hp} : ∀ {ts : List Tri}, PsAt K H ts [] → ts = []
  | [], _ => rfl
  | _ :: _, h => h.elim
theorem PsAt.len {K : PySem.W.Frag} {H : Hp} : ∀ {ts : List Tri} {ps : List OPart}, PsAt K H ts ps → ts.length = ps.length
  | [], [], _ => rfl
  | _ :: _, _ :: _, h => by rw [List.length_cons, List.length_cons, PsAt.len h.2]
theorem PsAt.keep {K : PySem.W.Frag} {H H' : Hp} (k : TK H H') : ∀ {ts : List Tri} {ps : List OPart}, PsAt K H ts ps → (∀ b ∈ triA ts, H' b = H b) → PsAt K H' ts ps
  | [], [], _, _ => trivial
  | t :: ts, p :: ps, h, e => by
    have e' : ∀ b ∈ triL t ++ triA ts, H' b = H b := e
    refine ⟨h.1.keep k (e' _ ?_) (e' _ ?_) (e' _ ?_), PsAt.keep k h.2 fun b hb => e' b (List.mem_append_right _ hb)⟩
    all_goals (refine List.mem_append_left _ ?_; simp [triL])
theorem PsAt.exs {K : PySem.W.Frag} {H : Hp} : ∀ {ts : List Tri} {ps : List OPart}, PsAt K H ts ps → ∀ b ∈ triA ts, ∃ o, H b = some o
  | [], [], _ => fun b hb => by cases hb
  | t :: ts, p :: ps, h => fun b hb => by
    have hb' : b ∈ triL t ++ triA ts := hb
    rcases List.mem_append.mp hb' with hb | hb
    · obtain ⟨dx, v, h1, _⟩ := h.1.ob
      obtain ⟨xs, h2, _⟩ := h.1.f
      obtain ⟨ys, h3, _⟩ := h.1.o
      simp [triL] at hb
      rcases hb with e | e | e
      · rw [e]; exact ⟨_, h1⟩
      · rw [e]; exact ⟨_, h2⟩
      · rw [e]; exact ⟨_, h3⟩
    · exact PsAt.exs h.2 b hb
/-- the reader at r, its lists at a1 .. a4, its open parts at ts -/
structure RA (K : PySem.W.Frag) (H : Hp) (r a1 a2 a3 a4 : Addr) (ts : List Tri) (st : RSt) : Prop where
  nd : (r :: a1 :: a2 :: a3 :: a4 :: triA ts).Nodup
  ob : ∃ dx, H r = some (.ins (He.ga K "ScriptReader") dx (fldsR a1 a2 a3 a4))
  l1 : ∃ xs, H a1 = some (.lst xs) ∧ RpL H (st.tapes.map encH) xs
  l2 : ∃ xs, H a2 = some (.lst xs) ∧ RpL H (st.idx.map encH) xs
  l3 : ∃ xs, H a3 = some (.lst xs) ∧ RpL H (st.procs.map encR) xs
  l4 : H a4 = some (.lst (ts.map fun t => V.ref t.1))
  ps : PsAt K H ts st.stack
def ownA (r a1 a2 a3 a4 : Addr) (ts : List Tri) : List Addr := r :: a1 :: a2 :: a3 :: a4 :: triA ts
theorem RA.exs {K : PySem.W.Frag} {H : Hp} {r a1 a2 a3 a4 : Addr} {ts : List Tri} {st : RSt} (h : RA K H r a1 a2 a3 a4 ts st) : ∀ b ∈ ownA r a1 a2 a3 a4 ts, ∃ o, H b = some o := fun b hb => by
  obtain ⟨dx, h0⟩ := h.ob
  obtain ⟨_, h1, _⟩ := h.l1
  obtain ⟨_, h2, _⟩ := h.l2
  obtain ⟨_, h3, _⟩ := h.l3
  have h4 := h.l4
  rcases List.mem_cons.mp hb with e | hb
  · rw [e]; exact ⟨_, h0⟩
  rcases List.mem_cons.mp hb with e | hb
  · rw [e]; exact ⟨_, h1⟩
  rcases List.mem_cons.mp hb with e | hb
  · rw [e]; exact ⟨_, h2⟩
  rcases List.mem_cons.mp hb with e | hb
  · rw [e]; exact ⟨_, h3⟩
  rcases List.mem_cons.mp hb with e | hb
  · rw [e]; exact ⟨_, h4⟩
  exact h.ps.exs b hb
/-- what is not in S is as it was -/
theorem SameX.at_ {S : List Addr} {H H' : Hp} (s : SameX S H H') {b : Addr} {o : HO} (h : H b = some o) (n : b ∉ S) : H' b = H b := by rw [h]; exact s _ _ h n
/-- all stays but the lists' contents, told anew -/
theorem RA.keep {K : PySem.W.Frag} {H H' : Hp} {r a1 a2 a3 a4 : Addr} {ts : List Tri} {st : RSt} (h : RA K H r a1 a2 a3 a4 ts st) (k : TK H H') (s : SameX [] H H') : RA K H' r a1 a2 a3 a4 ts st where
  nd := h.nd
  ob := let ⟨dx, a⟩ := h.ob; ⟨dx, s _ _ a (by simp)⟩
  l1 := let ⟨xs, a, b⟩ := h.l1; ⟨xs, s _ _ a (by simp), b.tk k⟩
  l2 := let ⟨xs, a, b⟩ := h.l2; ⟨xs, s _ _ a (by simp), b.tk k⟩
  l3 := let ⟨xs, a, b⟩ := h.l3; ⟨xs, s _ _ a (by simp), b.tk k⟩
  l4 := s _ _ h.l4 (by simp)
  ps := h.ps.keep k fun b hb => let ⟨o, e⟩ := h.ps.exs b hb; SameX.at_ s e (by simp)
theorem RA.same {K : PySem.W.Frag} {H H' : Hp} {r a1 a2 a3 a4 : Addr} {ts : List Tri} {st : RSt} (h : RA K H r a1 a2 a3 a4 ts st) (s : Same H H') : RA K H' r a1 a2 a3 a4 ts st := h.keep (same_tk s) (same_x s _)
/-! changes -/
section
variable {K : PySem.W.Frag} {H : Hp} {r a1 a2 a3 a4 : Addr} {ts : List Tri} {st : RSt}
theorem RA.ne (h : RA K H r a1 a2 a3 a4 ts st) : (r ≠ a1 ∧ r ≠ a2 ∧ r ≠ a3 ∧ r ≠ a4 ∧ r ∉ triA ts) ∧ (a1 ≠ a2 ∧ a1 ≠ a3 ∧ a1 ≠ a4 ∧ a1 ∉ triA ts) ∧ (a2 ≠ a3 ∧ a2 ≠ a4 ∧ a2 ∉ triA ts) ∧ (a3 ≠ a4 ∧ a3 ∉ triA ts) ∧ a4 ∉ triA ts ∧ (triA ts).Nodup := by
  have h1 := h.nd
  simp only [List.nodup_cons, List.mem_cons, not_or] at h1
  obtain ⟨⟨b1, b2, b3, b4, b5⟩, ⟨c1, c2, c3, c4⟩, ⟨d1, d2, d3⟩, ⟨e1, e2⟩, f1, g⟩ := h1
  exact ⟨⟨b1, b2, b3, b4, b5⟩, ⟨c1, c2, c3, c4⟩, ⟨d1, d2, d3⟩, ⟨e1, e2⟩, f1, g⟩
theorem tk_lst {a : Addr} {xs ys : List V} (h : H a = some (.lst xs)) : TK H (upd H a (.lst ys)) := tk_upd fun q z => by rw [h] at z; cases z
theorem RA.put1 (h : RA K H r a1 a2 a3 a4 ts st) {xs : List V} {v : V} {x : Str × Poly} (e : H a1 = some (.lst xs)) (hv : Rp H (encH x) v) : RA K (upd H a1 (.lst (xs ++ [v]))) r a1 a2 a3 a4 ts { st with tapes := st.tapes ++ [x] } := by
  have k := tk_lst (ys := xs ++ [v]) e
  obtain ⟨⟨n1, n2, n3, n4, n5⟩, ⟨m1, m2, m3, m4⟩, _⟩ := h.ne
  obtain ⟨dx, ho⟩ := h.ob
  obtain ⟨xs1, q1, r1⟩ := h.l1
  obtain ⟨xs2, q2, r2⟩ := h.l2
  obtain ⟨xs3, q3, r3⟩ := h.l3
  rw [e] at q1
  cases q1
  refine ⟨h.nd, ⟨dx, by rw [upd_ne n1]; exact ho⟩, ⟨_, upd_same, ?_⟩, ⟨xs2, by rw [upd_ne (Ne.symm m1)]; exact q2, r2.tk k⟩, ⟨xs3, by rw [upd_ne (Ne.symm m2)]; exact q3, r3.tk k⟩, by rw [upd_ne (Ne.symm m3)]; exact h.l4, h.ps.keep k fun b hb => upd_ne (fun z => m4 (z ▸ hb))⟩
  show RpL _ ((st.tapes ++ [x]).map encH) _
  rw [List.map_append]
  exact RpL.app (r1.tk k) ⟨v, [], rfl, hv.tk k, rfl⟩
theorem RA.put2 (h : RA K H r a1 a2 a3 a4 ts st) {xs : List V} {v : V} {x : Str × Poly} (e : H a2 = some (.lst xs)) (hv : Rp H (encH x) v) : RA K (upd H a2 (.lst (xs ++ [v]))) r a1 a2 a3 a4 ts { st with idx := st.idx ++ [x] } := by
  have k := tk_lst (ys := xs ++ [v]) e
  obtain ⟨⟨n1, n2, n3, n4, n5⟩, ⟨m1, m2, m3, m4⟩, ⟨k1, k2, k3⟩, _⟩ := h.ne
  obtain ⟨dx, ho⟩ := h.ob
  obtain ⟨xs1, q1, r1⟩ := h.l1
  obtain ⟨xs2, q2, r2⟩ := h.l2
  obtain ⟨xs3, q3, r3⟩ := h.l3
  rw [e] at q2
  cases q2
  refine ⟨h.nd, ⟨dx, by rw [upd_ne n2]; exact ho⟩, ⟨xs1, by rw [upd_ne m1]; exact q1, r1.tk k⟩, ⟨_, upd_same, ?_⟩, ⟨xs3, by rw [upd_ne (Ne.symm k1)]; exact q3, r3.tk k⟩, by rw [upd_ne (Ne.symm k2)]; exact h.l4, h.ps.keep k fun b hb => upd_ne (fun z => k3 (z ▸ hb))⟩
  show RpL _ ((st.idx ++ [x]).map encH) _
  rw [List.map_append]
  exact RpL.app (r2.tk k) ⟨v, [], rfl, hv.tk k, rfl⟩
theorem RA.put3 (h : RA K H r a1 a2 a3 a4 ts st) {xs : List V} {v : V} {x : Str × List Cmd} (e : H a3 = some (.lst xs)) (hv : Rp H (encR x) v) : RA K (upd H a3 (.lst (xs ++ [v]))) r a1 a2 a3 a4 ts { st with procs := st.procs ++ [x] } := by
  have k := tk_lst (ys := xs ++ [v]) e
  obtain ⟨⟨n1, n2, n3, n4, n5⟩, ⟨m1, m2, m3, m4⟩, ⟨k1, k2, k3⟩, ⟨j1, j2⟩, _⟩ := h.ne
  obtain ⟨dx, ho⟩ := h.ob
  obtain ⟨xs1, q1, r1⟩ := h.l1
  obtain ⟨xs2, q2, r2⟩ := h.l2
  obtain ⟨xs3, q3, r3⟩ := h.l3
  rw [e] at q3
  cases q3
  refine ⟨h.nd, ⟨dx, by rw [upd_ne n3]; exact ho⟩, ⟨xs1, by rw [upd_ne m2]; exact q1, r1.tk k⟩, ⟨xs2, by rw [upd_ne k1]; exact q2, r2.tk k⟩, ⟨_, upd_same, ?_⟩, by rw [upd_ne (Ne.symm j1)]; exact h.l4, h.ps.keep k fun b hb => upd_ne (fun z => j2 (z ▸ hb))⟩
  show RpL _ ((st.procs ++ [x]).map encR) _
  rw [List.map_append]
  exact RpL.app (r3.tk k) ⟨v, [], rfl, hv.tk k, rfl⟩
theorem RA.push (h : RA K H r a1 a2 a3 a4 ts st) {t : Tri} {p : OPart} (hp : PartAt K H t p) (hn : t.1 ≠ t.2.1 ∧ t.1 ≠ t.2.2 ∧ t.2.1 ≠ t.2.2) (hf : ∀ b ∈ triL t, b ∉ ownA r a1 a2 a3 a4 ts) :
    RA K (upd H a4 (.lst (ts.map (fun t => V.ref t.1) ++ [.ref t.1]))) r a1 a2 a3 a4 (ts ++ [t]) { st with stack := st.stack ++ [p] } := by
  have k := tk_lst (ys := ts.map (fun t => V.ref t.1) ++ [.ref t.1]) h.l4
  obtain ⟨⟨n1, n2, n3, n4, n5⟩, ⟨m1, m2, m3, m4⟩, ⟨k1, k2, k3⟩, ⟨j1, j2⟩, i1, i2⟩ := h.ne
  obtain ⟨dx, ho⟩ := h.ob
  obtain ⟨xs1, q1, r1⟩ := h.l1
  obtain ⟨xs2, q2, r2⟩ := h.l2
  obtain ⟨xs3, q3, r3⟩ := h.l3
  have ht4 : ∀ b ∈ triL t, b ≠ a4 := fun b hb e => hf b hb (by rw [e]; simp [ownA])
  refine ⟨?_, ⟨dx, by rw [upd_ne n4]; exact ho⟩, ⟨xs1, by rw [upd_ne m3]; exact q1, r1.tk k⟩, ⟨xs2, by rw [upd_ne k2]; exact q2, r2.tk k⟩, ⟨xs3, by rw [upd_ne j1]; exact q3, r3.tk k⟩, by rw [List.map_append]; exact upd_same, ?_⟩
  · rw [triA_app, triA_one]
    show (ownA r a1 a2 a3 a4 ts ++ triL t).Nodup
    rw [List.nodup_append]
    refine ⟨h.nd, ?_, fun a ha b hb e => hf b hb (e ▸ ha)⟩
    simp [triL]
    exact ⟨⟨hn.1, hn.2.1⟩, hn.2.2⟩
  · refine PsAt.app (h.ps.keep k fun b hb => upd_ne (fun z => i1 (z ▸ hb))) ⟨hp.keep k (upd_ne (ht4 _ ?_)) (upd_ne (ht4 _ ?_)) (upd_ne (ht4 _ ?_)), trivial⟩
    all_goals simp [triL]
theorem RA.pop {t : Tri} {p : OPart} {ss : List OPart} (h : RA K H r a1 a2 a3 a4 (ts ++ [t]) st) (e : st.stack = ss ++ [p]) : RA K (upd H a4 (.lst (ts.map fun t => V.ref t.1))) r a1 a2 a3 a4 ts { st with stack := ss } ∧ PartAt K (upd H a4 (.lst (ts.map fun t => V.ref t.1))) t p := by
  have k := tk_lst (ys := ts.map fun t => V.ref t.1) h.l4
  obtain ⟨⟨n1, n2, n3, n4, n5⟩, ⟨m1, m2, m3, m4⟩, ⟨k1, k2, k3⟩, ⟨j1, j2⟩, i1, i2⟩ := h.ne
  obtain ⟨dx, ho⟩ := h.ob
  obtain ⟨xs1, q1, r1⟩ := h.l1
  obtain ⟨xs2, q2, r2⟩ := h.l2
  obtain ⟨xs3, q3, r3⟩ := h.l3
  have hps := h.ps
  rw [e] at hps
  obtain ⟨us, t', e2, p1, p2⟩ := hps.snoc
  obtain ⟨e3, e4⟩ := List.append_inj' e2 rfl
  subst e3
  cases e4
  have nd := h.nd
  have hm : triA (ts ++ [t]) = triA ts ++ triL t := by rw [triA_app, triA_one]
  rw [hm] at nd i1
  have ht4 : ∀ b ∈ triL t, b ≠ a4 := fun b hb e => i1 (List.mem_append_right _ (e ▸ hb))
  refine ⟨⟨(show (ownA r a1 a2 a3 a4 ts ++ triL t).Nodup from nd).sublist (List.sublist_append_left _ _), ⟨dx, by rw [upd_ne n4]; exact ho⟩, ⟨xs1, by rw [upd_ne m3]; exact q1, r1.tk k⟩, ⟨xs2, by rw [upd_ne k2]; exact q2, r2.tk k⟩, ⟨xs3, by rw [upd_ne j1]; exact q3, r3.tk k⟩, upd_same, ?_⟩, ?_⟩
  · exact p1.keep k fun b hb => upd_ne (fun z => i1 (List.mem_append_left _ (z ▸ hb)))
  · refine p2.keep k (upd_ne (ht4 _ ?_)) (upd_ne (ht4 _ ?_)) (upd_ne (ht4 _ ?_))
    all_goals simp [triL]
/-- the top part has changed -/
theorem RA.top {t : Tri} {p p' : OPart} {ss : List OPart} {H' : Hp} (h : RA K H r a1 a2 a3 a4 (ts ++ [t]) st) (e : st.stack = ss ++ [p]) (s : SameX (triL t) H H') (k : TK H H') (hp : PartAt K H' t p') : RA K H' r a1 a2 a3 a4 (ts ++ [t]) { st with stack := ss ++ [p'] } := by
  obtain ⟨⟨n1, n2, n3, n4, n5⟩, ⟨m1, m2, m3, m4⟩, ⟨k1, k2, k3⟩, ⟨j1, j2⟩, i1, i2⟩ := h.ne
  have hm : triA (ts ++ [t]) = triA ts ++ triL t := by rw [triA_app, triA_one]
  rw [hm] at n5 m4 k3 j2 i1 i2
  obtain ⟨dx, ho⟩ := h.ob
  obtain ⟨xs1, q1, r1⟩ := h.l1
  obtain ⟨xs2, q2, r2⟩ := h.l2
  obtain ⟨xs3, q3, r3⟩ := h.l3
  have hps := h.ps
  rw [e] at hps
  obtain ⟨us, t', e2, p1, p2⟩ := hps.snoc
  obtain ⟨e3, e4⟩ := List.append_inj' e2 rfl
  subst e3
  cases e4
  have no : ∀ {b : Addr}, b ∉ triA ts ++ triL t → b ∉ triL t := fun hb hm => hb (List.mem_append_right _ hm)
  refine ⟨h.nd, ⟨dx, s _ _ ho (no n5)⟩, ⟨xs1, s _ _ q1 (no m4), r1.tk k⟩, ⟨xs2, s _ _ q2 (no k3), r2.tk k⟩, ⟨xs3, s _ _ q3 (no j2), r3.tk k⟩, s _ _ h.l4 (no i1), PsAt.app (p1.keep k fun b hb => ?_) ⟨hp, trivial⟩⟩
  obtain ⟨o, eo⟩ := p1.exs b hb
  exact SameX.at_ s eo fun hm => (List.nodup_append.mp i2).2.2 b hb b hm rfl
theorem RA.tne {t : Tri} (h : RA K H r a1 a2 a3 a4 (ts ++ [t]) st) : t.2.1 ≠ t.1 ∧ t.2.2 ≠ t.1 ∧ t.2.1 ≠ t.2.2 := by
  obtain ⟨_, _, _, _, _, i2⟩ := h.ne
  rw [triA_app, triA_one] at i2
  have := (List.nodup_append.mp i2).2.1
  simp [triL] at this
  exact ⟨Ne.symm this.1.1, Ne.symm this.1.2, this.2⟩
end
end NP
/-! NPReader2 -/
namespace NP
open PySem PySem.Spec PyProof.Rows L2 TL
theorem RpL.nilI {H : Hp} : RpL H [] [] := rfl
/-- how many there are at most -/
structure OPart.sz (n : Nat) (p : OPart) : Prop where
  f : p.first.length ≤ n
  o : p.others.length ≤ n
structure RSt.sz (n : Nat) (st : RSt) : Prop where
  t : st.tapes.length ≤ n
  i : st.idx.length ≤ n
  p : st.procs.length ≤ n
  s : st.stack.length ≤ n
  ps : ∀ p ∈ st.stack, p.sz n
def OPart.put (p : OPart) (c : Cmd) : OPart := if p.els = true then { p with others := p.others ++ [c] } else { p with first := p.first ++ [c] }
/-- the reader's promise: what it owns may change, new open parts are new -/
def Rdr (K : PySem.W.Frag) (H : Hp) (r a1 a2 a3 a4 : Addr) (ts : List Tri) (st' : RSt) (C : Hp → Prop) : Prop :=
  ∀ ts' H', SameX (ownA r a1 a2 a3 a4 ts) H H' → TK H H' → (∀ b ∈ triA ts', b ∈ triA ts ∨ H b = none) → RA K H' r a1 a2 a3 a4 ts' st' → C H'
section
variable {P : Program} {w : World} {K : PySem.W.Frag} {mg : Str → Option Value} {base : Heap}
def sp_ScriptReader__init (K : PySem.W.Frag) : Sp := fun vs H Q _ => ∃ (x dx : Addr), vs = [.ref x] ∧ H x = some (.ins (He.ga K "ScriptReader") dx []) ∧
  ∀ a1 a2 a3 a4 H', SameX [x] H H' → H a1 = none → H a2 = none → H a3 = none → H a4 = none → RA K H' x a1 a2 a3 a4 [] ⟨[], [], [], []⟩ → Q .non H'
abbrev nn_ScriptReader__init : List Str := ["self"]
theorem sc_ScriptReader__init : FnScope nn_ScriptReader__init ["self"] d_ScriptReader__init.scope := ⟨rfl, rfl, rfl, by decide +kernel, rfl, by decide +kernel, by decide +kernel⟩
theorem ok_ScriptReader__init (T : Top w K mg) : OKM P w K mg base 1 "ScriptReader" "__init__" ["self"] (sp_ScriptReader__init K) := by
  refine HasM.ok (d := d_ScriptReader__init) (T.hasM 37 rfl rfl rfl rfl) sc_ScriptReader__init (fun _ _ _ _ _ _ us hl => match us, hl with | [_], _ => rfl) (by rintro _ _ _ _ ⟨_, _, rfl, _⟩; rfl) (fun f cdv A outer s H vs Q E hRm h => ?_)
  obtain ⟨x, dx, rfl, hx, q⟩ := h
  refine ⟨_, (pss_cons (ps_fld (pv 0) (pe_lst pa_nil) rfl)
    (pss_cons (ps_fld (pv 0) (pe_lst pa_nil) rfl)
    (pss_cons (ps_fld (pv 0) (pe_lst pa_nil) rfl)
    (pss_one (ps_fld (pv 0) (pe_lst pa_nil) rfl))))), ?_⟩
  refine ⟨by show 0 ≤ sizeLine; decide, fun a ha => ⟨_, rfl, x, _, dx, [], rfl, same_upd ha _ _ hx, T.cls 116, T.noat 118, by decide, ?_⟩⟩
  have nax : a ≠ x := Ne.symm (ne_of_none hx ha)
  have s1 : SameX [x] H (upd (upd H a (.lst [])) x (.ins (He.ga K "ScriptReader") dx (putF "tapes" (.ref a) []))) := (samex_new ha).trans (samex_upd (by simp))
  have x1 : (upd (upd H a (.lst [])) x (.ins (He.ga K "ScriptReader") dx (putF "tapes" (.ref a) []))) x = some (.ins (He.ga K "ScriptReader") dx (putF "tapes" (.ref a) [])) := upd_same
  have u1 : (upd (upd H a (.lst [])) x (.ins (He.ga K "ScriptReader") dx (putF "tapes" (.ref a) []))) a = some (.lst []) := by rw [upd_ne nax]; exact upd_same
  generalize upd (upd H a (.lst [])) x (.ins (He.ga K "ScriptReader") dx (putF "tapes" (.ref a) [])) = H1 at s1 x1 u1 ⊢
  refine ⟨by show 0 ≤ sizeLine; decide, fun b hb => ⟨_, rfl, x, _, dx, _, rfl, same_upd hb _ _ x1, T.cls 116, T.noat 119, lt1000 (putF_lt (Nat.zero_le _)), ?_⟩⟩
  have nbx : b ≠ x := Ne.symm (ne_of_none x1 hb)
  have nba : b ≠ a := Ne.symm (ne_of_none u1 hb)
  have hbH : H b = none := s1.free hb (by simp; exact nbx)
  have s2 : SameX [x] H (upd (upd H1 b (.lst [])) x (.ins (He.ga K "ScriptReader") dx (putF "indexes" (.ref b) (putF "tapes" (.ref a) [])))) := (s1.trans (samex_new hb)).trans (samex_upd (by simp))
  have x2 : (upd (upd H1 b (.lst [])) x (.ins (He.ga K "ScriptReader") dx (putF "indexes" (.ref b) (putF "tapes" (.ref a) [])))) x = some (.ins (He.ga K "ScriptReader") dx (putF "indexes" (.ref b) (putF "tapes" (.ref a) []))) := upd_same
  have u2 : (upd (upd H1 b (.lst [])) x (.ins (He.ga K "ScriptReader") dx (putF "indexes" (.ref b) (putF "tapes" (.ref a) [])))) a = some (.lst []) := by rw [upd_ne nax]; exact same_upd hb _ _ u1
  have v2 : (upd (upd H1 b (.lst [])) x (.ins (He.ga K "ScriptReader") dx (putF "indexes" (.ref b) (putF "tapes" (.ref a) [])))) b = some (.lst []) := by rw [upd_ne nbx]; exact upd_same
  generalize upd (upd H1 b (.lst [])) x (.ins (He.ga K "ScriptReader") dx (putF "indexes" (.ref b) (putF "tapes" (.ref a) []))) = H2 at s2 x2 u2 v2 ⊢
  refine ⟨by show 0 ≤ sizeLine; decide, fun c hc => ⟨_, rfl, x, _, dx, _, rfl, same_upd hc _ _ x2, T.cls 116, T.noat 120, lt1000 (putF_lt (putF_lt (Nat.zero_le _))), ?_⟩⟩
  have ncx : c ≠ x := Ne.symm (ne_of_none x2 hc)
  have nca : c ≠ a := Ne.symm (ne_of_none u2 hc)
  have ncb : c ≠ b := Ne.symm (ne_of_none v2 hc)
  have hcH : H c = none := s2.free hc (by simp; exact ncx)
  have s3 : SameX [x] H (upd (upd H2 c (.lst [])) x (.ins (He.ga K "ScriptReader") dx (putF "procedures" (.ref c) (putF "indexes" (.ref b) (putF "tapes" (.ref a) []))))) := (s2.trans (samex_new hc)).trans (samex_upd (by simp))
  have x3 : (upd (upd H2 c (.lst [])) x (.ins (He.ga K "ScriptReader") dx (putF "procedures" (.ref c) (putF "indexes" (.ref b) (putF "tapes" (.ref a) []))))) x = some (.ins (He.ga K "ScriptReader") dx (putF "procedures" (.ref c) (putF "indexes" (.ref b) (putF "tapes" (.ref a) [])))) := upd_same
  have u3 : (upd (upd H2 c (.lst [])) x (.ins (He.ga K "ScriptReader") dx (putF "procedures" (.ref c) (putF "indexes" (.ref b) (putF "tapes" (.ref a) []))))) a = some (.lst []) := by rw [upd_ne nax]; exact same_upd hc _ _ u2
  have v3 : (upd (upd H2 c (.lst [])) x (.ins (He.ga K "ScriptReader") dx (putF "procedures" (.ref c) (putF "indexes" (.ref b) (putF "tapes" (.ref a) []))))) b = some (.lst []) := by rw [upd_ne nbx]; exact same_upd hc _ _ v2
  have w3 : (upd (upd H2 c (.lst [])) x (.ins (He.ga K "ScriptReader") dx (putF "procedures" (.ref c) (putF "indexes" (.ref b) (putF "tapes" (.ref a) []))))) c = some (.lst []) := by rw [upd_ne ncx]; exact upd_same
  generalize upd (upd H2 c (.lst [])) x (.ins (He.ga K "ScriptReader") dx (putF "procedures" (.ref c) (putF "indexes" (.ref b) (putF "tapes" (.ref a) [])))) = H3 at s3 x3 u3 v3 w3 ⊢
  refine ⟨by show 0 ≤ sizeLine; decide, fun d hd => ⟨_, rfl, x, _, dx, _, rfl, same_upd hd _ _ x3, T.cls 116, T.noat 121, lt1000 (putF_lt (putF_lt (putF_lt (Nat.zero_le _)))), ?_⟩⟩
  have ndx : d ≠ x := Ne.symm (ne_of_none x3 hd)
  have nda : d ≠ a := Ne.symm (ne_of_none u3 hd)
  have ndb : d ≠ b := Ne.symm (ne_of_none v3 hd)
  have ndc : d ≠ c := Ne.symm (ne_of_none w3 hd)
  have hdH : H d = none := s3.free hd (by simp; exact ndx)
  rw [fldsR_mk]
  refine q a b c d _ ((s3.trans (samex_new hd)).trans (samex_upd (by simp))) ha hbH hcH hdH ⟨?_, ⟨dx, upd_same⟩, ⟨[], ?_, rfl⟩, ⟨[], ?_, rfl⟩, ⟨[], ?_, rfl⟩, ?_, trivial⟩
  · simp [triA]
    exact ⟨⟨Ne.symm nax, Ne.symm nbx, Ne.symm ncx, Ne.symm ndx⟩, ⟨Ne.symm nba, Ne.symm nca, Ne.symm nda⟩, ⟨Ne.symm ncb, Ne.symm ndb⟩, Ne.symm ndc⟩
  · rw [upd_ne nax]; exact same_upd hd _ _ u3
  · rw [upd_ne nbx]; exact same_upd hd _ _ v3
  · rw [upd_ne ncx]; exact same_upd hd _ _ w3
  · rw [upd_ne ndx]; exact upd_same
def sp_ScriptReader_is_open (K : PySem.W.Frag) : Sp := fun vs H Q _ => ∃ (r a1 a2 a3 a4 : Addr) (ts : List Tri) (st : RSt), vs = [.ref r] ∧ RA K H r a1 a2 a3 a4 ts st ∧ Q (.bl (decide (0 < st.stack.length))) H
abbrev nn_ScriptReader_is_open : List Str := ["self"]
theorem sc_ScriptReader_is_open : FnScope nn_ScriptReader_is_open ["self"] d_ScriptReader_is_open.scope := ⟨rfl, rfl, rfl, by decide +kernel, rfl, by decide +kernel, by decide +kernel⟩
theorem ok_ScriptReader_is_open (T : Top w K mg) : OKM P w K mg base 1 "ScriptReader" "is_open" ["self"] (sp_ScriptReader_is_open K) := by
  refine HasM.ok (d := d_ScriptReader_is_open) (T.hasM 39 rfl rfl rfl rfl) sc_ScriptReader_is_open (fun _ _ _ _ _ _ us hl => match us, hl with | [_], _ => rfl) (by rintro _ _ _ _ ⟨_, _, _, _, _, _, _, rfl, _⟩; rfl) (fun f cdv A outer s H vs Q E hRm h => ?_)
  obtain ⟨r, a1, a2, a3, a4, ts, st, rfl, hR, q⟩ := h
  obtain ⟨dx, ho⟩ := hR.ob
  refine ⟨_, (pss_one (ps_ret (pe_cmpR op_gt (pe_callB lenA (by rfl) (T.free 92) (by decide +kernel) (pa_cons (pe_fld (pv 0) rfl) pa_nil)) pe_int (nomark _)))), ?_⟩
  refine ⟨_, rfl, r, _, dx, _, _, rfl, ho, T.cls 116, T.noat 121, rfl, a4, _, rfl, .inr hR.l4, _, _, rfl, rfl, ?_⟩
  have e := hR.ps.len
  rw [List.length_map, e]
  have e2 : decide ((0 : Int) < ((st.stack.length : Nat) : Int)) = decide (0 < st.stack.length) := by rw [Bool.eq_iff_iff]; simp
  show Q (.bl (decide ((0 : Int) < ((st.stack.length : Nat) : Int)))) H
  rw [e2]
  exact q
def sp_ScriptReader_script_read (K : PySem.W.Frag) : Sp := fun vs H Q _ => ∃ (r a1 a2 a3 a4 : Addr) (ts : List Tri) (st : RSt), vs = [.ref r] ∧ RA K H r a1 a2 a3 a4 ts st ∧ ∀ v H', Same H H' → Rp H' (Scr.enc ⟨st.tapes, st.idx, st.procs⟩) v → Q v H'
abbrev nn_ScriptReader_script_read : List Str := ["self"]
theorem sc_ScriptReader_script_read : FnScope nn_ScriptReader_script_read ["self"] d_ScriptReader_script_read.scope := ⟨rfl, rfl, rfl, by decide +kernel, rfl, by decide +kernel, by decide +kernel⟩
theorem ok_ScriptReader_script_read (T : Top w K mg) : OKM P w K mg base 1 "ScriptReader" "script_read" ["self"] (sp_ScriptReader_script_read K) := by
  refine HasM.ok (d := d_ScriptReader_script_read) (T.hasM 40 rfl rfl rfl rfl) sc_ScriptReader_script_read (fun _ _ _ _ _ _ us hl => match us, hl with | [_], _ => rfl) (by rintro _ _ _ _ ⟨_, _, _, _, _, _, _, rfl, _⟩; rfl) (fun f cdv A outer s H vs Q E hRm h => ?_)
  obtain ⟨r, a1, a2, a3, a4, ts, st, rfl, hR, q⟩ := h
  obtain ⟨dx, ho⟩ := hR.ob
  obtain ⟨xs, h1, r1⟩ := hR.l1
  obtain ⟨ys, h2, r2⟩ := hR.l2
  obtain ⟨zs, h3, r3⟩ := hR.l3
  refine ⟨_, (pss_one (ps_ret (pe_tup (pa_cons (pe_callTy tupL (by rfl) (T.free 97) (by decide +kernel) (pa_cons (pe_fld (pv 0) rfl) pa_nil)) (pa_cons (pe_callTy tupL (by rfl) (T.free 97) (by decide +kernel) (pa_cons (pe_fld (pv 0) rfl) pa_nil)) (pa_cons (pe_callTy tupL (by rfl) (T.free 97) (by decide +kernel) (pa_cons (pe_fld (pv 0) rfl) pa_nil)) pa_nil)))))), ?_⟩
  refine ⟨_, rfl, r, _, dx, _, _, rfl, ho, T.cls 116, T.noat 118, rfl, a1, xs, rfl, h1, fun p hp => ?_⟩
  have s1 : Same H (upd H p (.tup xs)) := same_upd hp
  have p1 : (upd H p (.tup xs)) p = some (.tup xs) := upd_same
  generalize upd H p (.tup xs) = H1 at s1 p1 ⊢
  refine ⟨_, rfl, r, _, dx, _, _, rfl, s1 _ _ ho, T.cls 116, T.noat 119, rfl, a2, ys, rfl, s1 _ _ h2, fun p2 hp2 => ?_⟩
  have s2 : Same H1 (upd H1 p2 (.tup ys)) := same_upd hp2
  have q2 : (upd H1 p2 (.tup ys)) p2 = some (.tup ys) := upd_same
  generalize upd H1 p2 (.tup ys) = H2 at s2 q2 ⊢
  refine ⟨_, rfl, r, _, dx, _, _, rfl, s2 _ _ (s1 _ _ ho), T.cls 116, T.noat 120, rfl, a3, zs, rfl, s2 _ _ (s1 _ _ h3), fun p3 hp3 => ?_⟩
  have s3 : Same H2 (upd H2 p3 (.tup zs)) := same_upd hp3
  have q3 : (upd H2 p3 (.tup zs)) p3 = some (.tup zs) := upd_same
  generalize upd H2 p3 (.tup zs) = H3 at s3 q3 ⊢
  have s4 := (s1.trans s2).trans s3
  refine ⟨by show 3 ≤ sizeLine; decide, fun c hc => ?_⟩
  exact q (.ref c) _ (s4.trans (same_upd hc)) (Rp.new (ds := [.tuple (st.tapes.map encH), .tuple (st.idx.map encH), .tuple (st.procs.map encR)]) hc
    ⟨_, _, rfl, ⟨p, xs, rfl, s3 _ _ (s2 _ _ p1), r1.same s4⟩, _, _, rfl, ⟨p2, ys, rfl, s3 _ _ q2, r2.same s4⟩, _, _, rfl, ⟨p3, zs, rfl, q3, r3.same s4⟩, rfl⟩)
end
end NP
/-! NPReader3 -/
namespace NP
open PySem PySem.Spec PyProof.Rows L2 TL
def EndStep (st st' : RSt) : Prop :=
  (∃ ss q p c, st.stack = ss ++ [q] ++ [p] ∧ p.hd.done p.first p.others = Cmd.enc c ∧ st' = { st with stack := ss ++ [q.put c] }) ∨
  (∃ p n, st.stack = [p] ∧ p.hd = .pr n ∧ st' = { st with stack := [], procs := st.procs ++ [(n, p.first)] })
section
variable {P : Program} {w : World} {K : PySem.W.Frag} {mg : Str → Option Value} {base : Heap}
def sp_ScriptReader_take_end (K : PySem.W.Frag) : Sp := fun vs H Q _ => ∃ (r a1 a2 a3 a4 : Addr) (ts : List Tri) (st st' : RSt), vs = [.ref r] ∧ RA K H r a1 a2 a3 a4 ts st ∧ st.sz 50000 ∧ EndStep st st' ∧ Rdr K H r a1 a2 a3 a4 ts st' (Q .non)
abbrev nn_ScriptReader_take_end : List Str := ["self", "ended"]
theorem sc_ScriptReader_take_end : FnScope nn_ScriptReader_take_end ["self"] d_ScriptReader_take_end.scope := ⟨rfl, rfl, rfl, by decide +kernel, rfl, by decide +kernel, by decide +kernel⟩
theorem ok_ScriptReader_take_end (T : Top w K mg) : OKM P w K mg base 2 "ScriptReader" "take_end" ["self"] (sp_ScriptReader_take_end K) := by
  refine HasM.ok (d := d_ScriptReader_take_end) (T.hasM 42 rfl rfl rfl rfl) sc_ScriptReader_take_end (fun _ _ _ _ _ _ us hl => match us, hl with | [_], _ => rfl) (by rintro _ _ _ _ ⟨_, _, _, _, _, _, _, _, rfl, _⟩; rfl) (fun f cdv A outer s H vs Q E hRm h => ?_)
  obtain ⟨r, a1, a2, a3, a4, ts, st, st', rfl, hR, hsz, hst, q⟩ := h
  obtain ⟨dx, ho⟩ := hR.ob
  have big : 200000 ≤ sizeLine := by decide
  refine ⟨_, (pss_cons (ps_set (i := 1) sc_ScriptReader_take_end.nd rfl (.inl rfl) (pe_mc0 (ok_OpenPart_ended T) (T.cls 106) (T.meth 115) (hRm.mono (by decide)) (pe_bm0 PySem.F.plainAttrs_list PySem.F.slot_list_pop PySem.F.type_list_pop mt_pop (pe_fld (pv 0) rfl))))
    (pss_one (ps_if (pt_val (pe_mc0 (ok_ScriptReader_is_open T) (T.cls 116) (T.meth 123) (hRm.mono (by decide)) (pv 0))) (pss_one (ps_expr (pe_mc (ok_OpenPart_take_inner T) (T.cls 106) (T.meth 113) (hRm.mono (by decide)) (pe_ix ixLast (pe_fld (pv 0) rfl) (pe_un un_neg pe_int) (fun _ _ => rfl)) (pa_cons (pv 1) pa_nil)))) (pss_one (ps_expr (pe_bm PySem.F.plainAttrs_list PySem.F.slot_list_append PySem.F.type_list_append mt_append (pe_fld (pv 0) rfl) (pa_cons (pv 1) pa_nil))))))), ?_⟩
  -- the part that ends
  have htop : ∃ ss p, st.stack = ss ++ [p] := by
    rcases hst with ⟨ss, q, p, c, e, _⟩ | ⟨p, n, e, _⟩
    · exact ⟨_, _, e⟩
    · exact ⟨[], p, e⟩
  obtain ⟨ss, p, es⟩ := htop
  have hps := hR.ps
  rw [es] at hps
  obtain ⟨us, t, et, _, _⟩ := hps.snoc
  subst et
  obtain ⟨hR1, hP1⟩ := hR.pop es
  have hl4 := hR.l4
  rw [List.map_append] at hl4
  have hl4 : H a4 = some (.lst (us.map (fun t => V.ref t.1) ++ [.ref t.1])) := hl4
  refine ⟨_, rfl, r, _, dx, _, _, rfl, ho, T.cls 116, T.noat 121, rfl, .inl ⟨rfl, _, .of hl4⟩, a4, _, _, rfl, rfl, hl4, by rw [List.length_append, List.length_singleton, Nat.add_sub_cancel]; exact List.getElem?_concat_length, ?_⟩
  rw [List.dropLast_concat]
  have x1 : SameX (ownA r a1 a2 a3 a4 (us ++ [t])) H (upd H a4 (.lst (us.map fun t => V.ref t.1))) := samex_upd (by simp [ownA])
  have k1 : TK H (upd H a4 (.lst (us.map fun t => V.ref t.1))) := tk_lst hl4
  generalize upd H a4 (.lst (us.map fun t => V.ref t.1)) = H1 at x1 k1 hR1 hP1 ⊢
  obtain ⟨dp, hv0, hop, _, _⟩ := hP1.ob
  refine ⟨t.1, dp, _, rfl, hop, rfl, t, p, rfl, hP1, fun v H2 s2 hv => ?_⟩
  have hR2 := hR1.same s2
  have x2 := x1.trans (same_x s2 _)
  have k2 := k1.trans (same_tk s2)
  obtain ⟨dx2, ho2⟩ := hR2.ob
  refine ⟨_, rfl, r, dx2, _, rfl, ho2, rfl, r, a1, a2, a3, a4, us, _, rfl, hR2, _, rfl, ?_⟩
  show (if decide (0 < ss.length) = true then _ else _)
  rcases hst with ⟨ss', q', p', c, e, ec, e'⟩ | ⟨p', n, e, hn, e'⟩
  · rw [es] at e
    obtain ⟨e1, e2⟩ := List.append_inj' e rfl
    cases e2
    subst e1
    have hps2 : PsAt K H2 us (ss' ++ [q']) := hR2.ps
    obtain ⟨us', t', et', _, hT'⟩ := hps2.snoc
    subst et'
    refine iteDt (by simp) ?_
    have hl5 := hR2.l4
    rw [List.map_append] at hl5
    have hl5 : H2 a4 = some (.lst (us'.map (fun t => V.ref t.1) ++ [.ref t'.1])) := hl5
    obtain ⟨dq, hvq, hoq, _, _⟩ := hT'.ob
    obtain ⟨n1, n2, n3⟩ := hR2.tne
    rw [ec] at hv
    have hq : q'.sz 50000 := hsz.ps q' (by rw [es]; simp)
    refine ⟨_, rfl, r, _, dx2, _, _, rfl, ho2, T.cls 116, T.noat 121, rfl, 1, rfl, a4, _, _, rfl, rfl, hl5, ?_⟩
    refine ⟨t'.1, dq, _, rfl, hoq, rfl, _, rfl, t', q', c, v, rfl, hT', n1, n2, n3, hv, Nat.le_trans hq.f (by decide), Nat.le_trans hq.o (by decide), fun H3 x3 k3 hT3 => ?_⟩
    have hR3 := hR2.top (ss := ss') (p := q') (t := t') rfl (x3.mono (by intro b hb; simp [triL] at hb ⊢; rcases hb with e | e <;> simp [e])) k3 hT3
    rw [e'] at q
    refine q (us' ++ [t']) H3 (x2.trans (x3.mono fun b hb => ?_)) (k2.trans k3) (fun b hb => .inl ?_) hR3
    · have : b ∈ triA (us' ++ [t']) := by rw [triA_app, triA_one]; simp [triL] at hb ⊢; rcases hb with e | e <;> simp [e]
      have : b ∈ triA (us' ++ [t'] ++ [t]) := by rw [triA_app]; exact List.mem_append_left _ this
      exact List.mem_cons_of_mem _ (List.mem_cons_of_mem _ (List.mem_cons_of_mem _ (List.mem_cons_of_mem _ (List.mem_cons_of_mem _ this))))
    · rw [triA_app]; exact List.mem_append_left _ hb
  · rw [es] at e
    have e1 : ss = [] := by
      have := congrArg List.length e
      simp at this
      exact this
    subst e1
    have ep : p = p' := by simpa using e
    subst ep
    have eu : us = [] := PsAt.nil hR2.ps
    subst eu
    rw [hn] at hv
    refine iteDf (by simp) ?_
    obtain ⟨zs, hz, hrz⟩ := hR2.l3
    have hz' : zs.length ≤ 50000 := by
      have := RpL.len hrz
      rw [List.length_map] at this
      rw [this]
      exact hsz.p
    refine ⟨_, rfl, r, _, dx2, _, _, rfl, ho2, T.cls 116, T.noat 120, rfl, .inl ⟨rfl, _, .of hz⟩, _, rfl, a3, zs, v, rfl, rfl, hz, by omega, ?_⟩
    have hR3 := hR2.put3 (x := (n, p.first)) hz hv
    rw [e'] at q
    exact q [] _ (x2.trans (samex_upd (by simp [ownA]))) (k2.trans (tk_lst hz)) (fun b hb => by cases hb) hR3
/-- a new open part -/
theorem newPart {H H2 : Hp} {x dx f o : Addr} {v : V} {hd : Hd} (hx : H x = none) (hdx : H dx = none) (ne : dx ≠ x) (s : SameX [x] (upd (upd H dx (.own x)) x (.ins (He.ga K "OpenPart") dx [])) H2)
    (hf : (upd (upd H dx (.own x)) x (.ins (He.ga K "OpenPart") dx [])) f = none) (ho : (upd (upd H dx (.own x)) x (.ins (He.ga K "OpenPart") dx [])) o = none) (nfo : f ≠ o)
    (e1 : H2 x = some (.ins (He.ga K "OpenPart") dx (fldsP (.str hd.kind) v f o false))) (e2 : H2 f = some (.lst [])) (e3 : H2 o = some (.lst [])) (hv : Rp H hd.enc v) (hn : v ≠ .non) :
    Same H H2 ∧ PartAt K H2 (x, f, o) ⟨hd, [], [], false⟩ ∧ (x ≠ f ∧ x ≠ o ∧ f ≠ o) ∧ ∀ b ∈ triL (x, f, o), H b = none := by
  have s0 : Same H H2 := fun b oo hb => by
    have hbx : b ≠ x := ne_of_none hb hx
    exact s b oo (by rw [upd_ne hbx, upd_ne (ne_of_none hb hdx)]; exact hb) (by simp; exact hbx)
  have nxf : f ≠ x := fun e => by rw [e, upd_same] at hf; cases hf
  have nxo : o ≠ x := fun e => by rw [e, upd_same] at ho; cases ho
  have fr : ∀ b, (upd (upd H dx (.own x)) x (.ins (He.ga K "OpenPart") dx [])) b = none → H b = none := fun b hb => by
    cases q : H b with
    | none => rfl
    | some oo =>
      rw [upd_ne (ne_of_none q hx), upd_ne (ne_of_none q hdx), q] at hb
      cases hb
  refine ⟨s0, ⟨⟨dx, v, e1, hv.same s0, hn⟩, ⟨[], e2, rfl⟩, ⟨[], e3, rfl⟩⟩, ⟨Ne.symm nxf, Ne.symm nxo, nfo⟩, fun b hb => ?_⟩
  simp [triL] at hb
  rcases hb with e | e | e
  · rw [e]; exact hx
  · rw [e]; exact fr _ hf
  · rw [e]; exact fr _ ho
theorem RA.fresh {H : Hp} {r a1 a2 a3 a4 : Addr} {ts : List Tri} {st : RSt} (h : RA K H r a1 a2 a3 a4 ts st) {b : Addr} (hb : H b = none) : b ∉ ownA r a1 a2 a3 a4 ts := fun hm => by
  obtain ⟨o, e⟩ := h.exs b hm
  rw [hb] at e
  cases e
/-- the reader after a new part has been put on the pile -/
theorem Rdr.pushed {H H1 H2 : Hp} {r a1 a2 a3 a4 : Addr} {ts : List Tri} {st : RSt} {hd : Hd} {t : Tri} {C : Hp → Prop} (q : Rdr K H r a1 a2 a3 a4 ts { st with stack := st.stack ++ [⟨hd, [], [], false⟩] } C)
    (hR : RA K H1 r a1 a2 a3 a4 ts st) (s1 : Same H H1) (s2 : Same H1 H2) (hP : PartAt K H2 t ⟨hd, [], [], false⟩) (hn : t.1 ≠ t.2.1 ∧ t.1 ≠ t.2.2 ∧ t.2.1 ≠ t.2.2) (hf : ∀ b ∈ triL t, H1 b = none) :
    C (upd H2 a4 (.lst (ts.map (fun t => V.ref t.1) ++ [.ref t.1]))) := by
  have hR2 := hR.same s2
  have hR3 := hR2.push hP hn fun b hb => hR.fresh (hf b hb)
  refine q (ts ++ [t]) _ ((same_x (s1.trans s2) _).trans (samex_upd (by simp [ownA]))) ((same_tk (s1.trans s2)).trans (tk_lst hR2.l4)) (fun b hb => ?_) hR3
  rw [triA_app, triA_one] at hb
  exact (List.mem_append.mp hb).imp id fun h => SameX.free (S := []) (same_x s1 _) (hf b h) (by simp)
def HeadStep (st : RSt) : Ln → RSt → Prop
  | .tape n p, st' => st.procs = [] ∧ st.idx = [] ∧ st' = { st with tapes := st.tapes ++ [(n, p)] }
  | .idx n p, st' => st.procs = [] ∧ st' = { st with idx := st.idx ++ [(n, p)] }
  | .proc n, st' => st' = { st with stack := st.stack ++ [⟨.pr n, [], [], false⟩] }
  | _, _ => False
def sp_ScriptReader_take_head (K : PySem.W.Frag) : Sp := fun vs H Q _ => ∃ (r a1 a2 a3 a4 b : Addr) (ts : List Tri) (st st' : RSt) (l : Ln), vs = [.ref r, .ref b] ∧ RA K H r a1 a2 a3 a4 ts st ∧ st.sz 50000 ∧ l.fit ∧ H b = some (.lst (l.words.map V.str)) ∧ HeadStep st l st' ∧ Rdr K H r a1 a2 a3 a4 ts st' (Q (.bl true))
abbrev nn_ScriptReader_take_head : List Str := ["self", "words", "pair"]
theorem sc_ScriptReader_take_head : FnScope nn_ScriptReader_take_head ["self", "words"] d_ScriptReader_take_head.scope := ⟨rfl, rfl, rfl, by decide +kernel, rfl, by decide +kernel, by decide +kernel⟩
theorem ok_ScriptReader_take_head (T : Top w K mg) : OKM P w K mg base 6 "ScriptReader" "take_head" ["self", "words"] (sp_ScriptReader_take_head K) := by
  refine HasM.ok (d := d_ScriptReader_take_head) (T.hasM 41 rfl rfl rfl rfl) sc_ScriptReader_take_head (fun _ _ _ _ _ _ us hl => match us, hl with | [_, _], _ => rfl) (by rintro _ _ _ _ ⟨_, _, _, _, _, _, _, _, _, _, rfl, _⟩; rfl) (fun f cdv A outer s H vs Q E hRm h => ?_)
  obtain ⟨r, a1, a2, a3, a4, b, ts, st, st', l, rfl, hR, hsz, hfit, hb, hst, q⟩ := h
  obtain ⟨dx, ho⟩ := hR.ob
  have big : 200000 ≤ sizeLine := by decide
  refine ⟨_, (pss_cons (ps_if (pt_cmpR op_eq (pe_ix ixL (pv 1) pe_int (fun _ _ => rfl)) pe_str (nomark _)) (pss_cons (ps_if (PW.pt (pw_or (pt_cmpR op_ne (pe_callB lenA (by rfl) (T.free 92) (by decide +kernel) (pa_cons (pv 1) pa_nil)) pe_int (nomark _)) (pw_or1 (pt_not (pt_val (pe_c (ok_is_name_value T) (hRm.mono (by decide)) (by rfl) (pa_cons (pe_ix ixL (pv 1) pe_int (fun _ _ => rfl)) pa_nil))))))) (pss_one (ps_ret pe_bl)) pss_nil)
    (pss_cons (ps_expr (pe_bm PySem.F.plainAttrs_list PySem.F.slot_list_append PySem.F.type_list_append mt_append (pe_fld (pv 0) rfl) (pa_cons (pe_mk (ok_OpenPart__init T) (T.mkr 107) (T.glo 40) (hRm.mono (by decide)) (by rfl) (pa_cons pe_str (pa_cons (pe_ix ixL (pv 1) pe_int (fun _ _ => rfl)) pa_nil))) pa_nil)))
    (pss_one (ps_ret pe_bl)))) pss_nil)
    (pss_cons (ps_set (i := 2) sc_ScriptReader_take_head.nd rfl (.inl rfl) (pe_c (ok_read_size T) (hRm.mono (by decide)) (by rfl) (pa_cons (pv 1) pa_nil)))
    (pss_cons (ps_if (PW.pt (pw_or (pt_cmpR op_isN (pv 2) pe_non (nomark _)) (pw_or (pt_cmpR (op_neNilL hRm.units0) (pe_fld (pv 0) rfl) (pe_lst pa_nil) (nomark _)) (pw_or1 (PW.pt (pw_and (pt_cmpR op_eq (pe_ix ixL (pv 1) pe_int (fun _ _ => rfl)) pe_str (nomark _)) (pw_and1 (pt_cmpR (op_neNilL hRm.units0) (pe_fld (pv 0) rfl) (pe_lst pa_nil) (nomark _))))))))) (pss_one (ps_ret pe_bl)) pss_nil)
    (pss_cons (ps_if (pt_cmpR op_eq (pe_ix ixL (pv 1) pe_int (fun _ _ => rfl)) pe_str (nomark _)) (pss_one (ps_expr (pe_bm PySem.F.plainAttrs_list PySem.F.slot_list_append PySem.F.type_list_append mt_append (pe_fld (pv 0) rfl) (pa_cons (pv 2) pa_nil)))) (pss_one (ps_expr (pe_bm PySem.F.plainAttrs_list PySem.F.slot_list_append PySem.F.type_list_append mt_append (pe_fld (pv 0) rfl) (pa_cons (pv 2) pa_nil)))))
    (pss_one (ps_ret pe_bl)))))), ?_⟩
  have hlen := hR.ps.len
  cases l <;> try exact hst.elim
  case proc n =>
    have e' : st' = _ := hst
    rw [e'] at q
    have hb : H b = some (.lst [.str "procedure", .str n]) := hb
    have hn : Nm n := hfit
    refine ⟨_, rfl, b, _, 0, _, rfl, rfl, hb, rfl, rfl, _, rfl, iteDt rfl ?_⟩
    refine ⟨_, rfl, b, _, rfl, .inr hb, rfl, _, rfl, iteNf rfl ⟨_, rfl, b, _, 1, _, rfl, rfl, hb, rfl, n, rfl, hn, fun H1 s1 => ⟨true, rfl, iteF ?_⟩⟩⟩
    have hR1 := hR.same s1
    refine ⟨_, rfl, r, _, dx, _, _, rfl, s1 _ _ ho, T.cls 116, T.noat 121, rfl, .inl ⟨rfl, _, .of hR1.l4⟩, _, rfl, b, _, 1, _, rfl, rfl, s1 _ _ hb, rfl, fun x dx2 hx hdx ne => ?_⟩
    refine ⟨x, dx2, _, _, rfl, upd_same, fun f o H2 sx hf ho2 nfo e1 e2 e3 => ⟨rfl, ?_⟩⟩
    obtain ⟨s2, hP, hd, hfr⟩ := newPart (hd := .pr n) hx hdx ne sx hf ho2 nfo e1 e2 e3 rfl (by intro z; cases z)
    refine ⟨a4, _, _, rfl, rfl, s2 _ _ hR1.l4, by rw [List.length_map, hlen]; have := hsz.s; omega, ?_⟩
    exact Rdr.pushed q hR1 s1 s2 hP hd hfr
  case tape n p =>
    obtain ⟨h1, h2, e'⟩ := hst
    rw [e'] at q
    have hb : H b = some (.lst ((("tape" : Str) :: n :: "size" :: polyWords p).map V.str)) := hb
    refine ⟨_, rfl, b, _, 0, _, rfl, rfl, hb, rfl, rfl, _, rfl, iteDf (vs_ne (by decide +kernel)) ?_⟩
    refine ⟨_, rfl, n, _, _, p, b, rfl, hb, .inl ⟨rfl, rfl⟩, hfit.1, hfit.2, fun v H1 s1 hv hvn => ?_⟩
    have hR1 := hR.same s1
    obtain ⟨dx1, ho1⟩ := hR1.ob
    refine ⟨_, rfl, rfl, _, rfl, iteDf hvn ?_⟩
    obtain ⟨zs, hz, hrz⟩ := hR1.l3
    rw [h1] at hrz
    have ez : zs = [] := hrz
    subst ez
    refine ⟨_, rfl, r, _, dx1, _, _, rfl, ho1, T.cls 116, T.noat 120, rfl, by show 0 ≤ sizeLine; decide, fun t ht => ?_⟩
    have s2 : Same H1 (upd H1 t (.lst [])) := same_upd ht
    refine ⟨a3, t, _, rfl, rfl, .of (s2 _ _ hz), .of upd_same, _, rfl, iteF ?_⟩
    have hR2 := hR1.same s2
    generalize upd H1 t (.lst []) = H2 at s2 hR2 ⊢
    obtain ⟨ys, hy, hry⟩ := hR2.l2
    rw [h2] at hry
    have ey : ys = [] := hry
    subst ey
    obtain ⟨dx2, ho2⟩ := hR2.ob
    refine ⟨_, rfl, b, _, 0, _, rfl, rfl, s2 _ _ (s1 _ _ hb), rfl, rfl, _, rfl, iteDt rfl ?_⟩
    refine ⟨_, rfl, r, _, dx2, _, _, rfl, ho2, T.cls 116, T.noat 119, rfl, by show 0 ≤ sizeLine; decide, fun t2 ht2 => ?_⟩
    have s3 : Same H2 (upd H2 t2 (.lst [])) := same_upd ht2
    refine ⟨a2, t2, _, rfl, rfl, .of (s3 _ _ hy), .of upd_same, _, rfl, iteF ?_⟩
    have hR3 := hR2.same s3
    generalize upd H2 t2 (.lst []) = H3 at s3 hR3 ⊢
    obtain ⟨dx3, ho3⟩ := hR3.ob
    obtain ⟨xs, hx, hrx⟩ := hR3.l1
    have hxl : xs.length ≤ 50000 := by
      have := RpL.len hrx
      rw [List.length_map] at this
      rw [this]
      exact hsz.t
    have s4 := (s1.trans s2).trans s3
    refine ⟨_, rfl, b, _, 0, _, rfl, rfl, s4 _ _ hb, rfl, rfl, _, rfl, iteDt rfl ?_⟩
    refine ⟨_, rfl, r, _, dx3, _, _, rfl, ho3, T.cls 116, T.noat 118, rfl, .inl ⟨rfl, _, .of hx⟩, _, rfl, a1, xs, v, rfl, rfl, hx, by omega, ?_⟩
    exact q ts _ ((same_x s4 _).trans (samex_upd (by simp [ownA]))) ((same_tk s4).trans (tk_lst hx)) (fun b hb => .inl hb) (hR3.put1 hx (hv.same (s2.trans s3)))
  case idx n p =>
    obtain ⟨h1, e'⟩ := hst
    rw [e'] at q
    have hb : H b = some (.lst ((("index" : Str) :: n :: "to" :: polyWords p).map V.str)) := hb
    refine ⟨_, rfl, b, _, 0, _, rfl, rfl, hb, rfl, rfl, _, rfl, iteDf (vs_ne (by decide +kernel)) ?_⟩
    refine ⟨_, rfl, n, _, _, p, b, rfl, hb, .inr ⟨rfl, rfl⟩, hfit.1, hfit.2, fun v H1 s1 hv hvn => ?_⟩
    have hR1 := hR.same s1
    obtain ⟨dx1, ho1⟩ := hR1.ob
    refine ⟨_, rfl, rfl, _, rfl, iteDf hvn ?_⟩
    obtain ⟨zs, hz, hrz⟩ := hR1.l3
    rw [h1] at hrz
    have ez : zs = [] := hrz
    subst ez
    refine ⟨_, rfl, r, _, dx1, _, _, rfl, ho1, T.cls 116, T.noat 120, rfl, by show 0 ≤ sizeLine; decide, fun t ht => ?_⟩
    have s2 : Same H1 (upd H1 t (.lst [])) := same_upd ht
    refine ⟨a3, t, _, rfl, rfl, .of (s2 _ _ hz), .of upd_same, _, rfl, iteF ?_⟩
    have hR2 := hR1.same s2
    generalize upd H1 t (.lst []) = H2 at s2 hR2 ⊢
    obtain ⟨dx2, ho2⟩ := hR2.ob
    refine ⟨_, rfl, b, _, 0, _, rfl, rfl, s2 _ _ (s1 _ _ hb), rfl, rfl, _, rfl, iteDf (vs_ne (by decide +kernel)) ?_⟩
    obtain ⟨xs, hx, hrx⟩ := hR2.l2
    have hxl : xs.length ≤ 50000 := by
      have := RpL.len hrx
      rw [List.length_map] at this
      rw [this]
      exact hsz.i
    have s4 := s1.trans s2
    refine ⟨_, rfl, b, _, 0, _, rfl, rfl, s4 _ _ hb, rfl, rfl, _, rfl, iteDf (vs_ne (by decide +kernel)) ?_⟩
    refine ⟨_, rfl, r, _, dx2, _, _, rfl, ho2, T.cls 116, T.noat 119, rfl, .inl ⟨rfl, _, .of hx⟩, _, rfl, a2, xs, v, rfl, rfl, hx, by omega, ?_⟩
    exact q ts _ ((same_x s4 _).trans (samex_upd (by simp [ownA]))) ((same_tk s4).trans (tk_lst hx)) (fun b hb => .inl hb) (hR2.put2 hx (hv.same s2))
end
end NP
/-! NPReader4 -/
namespace NP
open PySem PySem.Spec PyProof.Rows L2 TL
def CmdStep (st : RSt) : Ln → RSt → Prop
  | .si s, st' => ∃ ss p, st.stack = ss ++ [p] ∧ st' = { st with stack := ss ++ [p.put (.si s)] }
  | .re p, st' => st' = { st with stack := st.stack ++ [⟨.re p, [], [], false⟩] }
  | .if_ t, st' => st' = { st with stack := st.stack ++ [⟨.if_ t, [], [], false⟩] }
  | _, _ => False
/-- a simple command's first word is none of these -/
theorem Si.head_ok {s : Si} (h : s.fit) : ∃ z r, s.words = z :: r ∧ z ≠ "if" ∧ z ≠ "repeat" ∧ z ≠ "end" ∧ z ≠ "else" := by
  have key : ∀ z, Nm z → z ≠ "if" ∧ z ≠ "repeat" ∧ z ≠ "end" ∧ z ≠ "else" := (by decide +kernel : ∀ z ∈ allNames, z ≠ "if" ∧ z ≠ "repeat" ∧ z ≠ "end" ∧ z ≠ "else")
  have c : ∀ a i : Str, cellS a i ≠ "if" ∧ cellS a i ≠ "repeat" ∧ cellS a i ≠ "end" ∧ cellS a i ≠ "else" := fun a i => ⟨cell_lit (by decide +kernel), cell_lit (by decide +kernel), cell_lit (by decide +kernel), cell_lit (by decide +kernel)⟩
  cases s with
  | set a i x => exact ⟨_, _, rfl, c a i⟩
  | copy a i b j => exact ⟨_, _, rfl, c a i⟩
  | clear a i => exact ⟨_, _, rfl, c a i⟩
  | zero i => exact ⟨_, _, rfl, key _ h.1⟩
  | up i => exact ⟨_, _, rfl, by decide +kernel⟩
  | down i => exact ⟨_, _, rfl, by decide +kernel⟩
  | same i j => exact ⟨_, _, rfl, key _ h.1⟩
  | go p => exact ⟨_, _, rfl, by decide +kernel⟩
  | choose pl a i ls =>
    refine ⟨_, _, rfl, ?_⟩
    rcases (show Pla pl from h.1) with rfl | rfl <;> decide +kernel
  | wins pl =>
    refine ⟨_, _, rfl, ?_⟩
    rcases (show Pla pl from h.1) with rfl | rfl <;> decide +kernel
section
variable {P : Program} {w : World} {K : PySem.W.Frag} {mg : Str → Option Value} {base : Heap}
theorem slice1 {H : Hp} {b p : Addr} {z : Str} {ws : List Str} (hp : H p = none) : ∃ H2, upd H p (.lst (cutV ((z :: ws).map V.str) (some 1) none)) = H2 ∧ Same H H2 ∧ H2 p = some (.lst (ws.map V.str)) := by
  refine ⟨_, rfl, same_upd hp, ?_⟩
  rw [cutV_one]
  exact upd_same
def sp_ScriptReader_take_command (K : PySem.W.Frag) : Sp := fun vs H Q _ => ∃ (r a1 a2 a3 a4 b : Addr) (ts : List Tri) (st st' : RSt) (l : Ln), vs = [.ref r, .ref b] ∧ RA K H r a1 a2 a3 a4 ts st ∧ st.sz 50000 ∧ l.fit ∧ H b = some (.lst (l.words.map V.str)) ∧ CmdStep st l st' ∧ Rdr K H r a1 a2 a3 a4 ts st' (Q (.bl true))
abbrev nn_ScriptReader_take_command : List Str := ["self", "words", "test", "poly", "command"]
theorem sc_ScriptReader_take_command : FnScope nn_ScriptReader_take_command ["self", "words"] d_ScriptReader_take_command.scope := ⟨rfl, rfl, rfl, by decide +kernel, rfl, by decide +kernel, by decide +kernel⟩
theorem ok_ScriptReader_take_command (T : Top w K mg) : OKM P w K mg base 11 "ScriptReader" "take_command" ["self", "words"] (sp_ScriptReader_take_command K) := by
  refine HasM.ok (d := d_ScriptReader_take_command) (T.hasM 43 rfl rfl rfl rfl) sc_ScriptReader_take_command (fun _ _ _ _ _ _ us hl => match us, hl with | [_, _], _ => rfl) (by rintro _ _ _ _ ⟨_, _, _, _, _, _, _, _, _, _, rfl, _⟩; rfl) (fun f cdv A outer s H vs Q E hRm h => ?_)
  obtain ⟨r, a1, a2, a3, a4, b, ts, st, st', l, rfl, hR, hsz, hfit, hb, hst, q⟩ := h
  obtain ⟨dx, ho⟩ := hR.ob
  have big : 200000 ≤ sizeLine := by decide
  refine ⟨_, (pss_cons (ps_if (pt_cmpR op_eq (pe_ix ixL (pv 1) pe_int (fun _ _ => rfl)) pe_str (nomark _)) (pss_cons (ps_set (i := 2) sc_ScriptReader_take_command.nd rfl (.inl rfl) (pe_c (ok_read_test T) (hRm.mono (by decide)) (by rfl) (pa_cons (pe_slice sl_list (pv 1) (po_some pe_int) po_none) pa_nil)))
    (pss_cons (ps_if (pt_cmpR op_isN (pv 2) pe_non (nomark _)) (pss_one (ps_ret pe_bl)) pss_nil)
    (pss_one (ps_expr (pe_bm PySem.F.plainAttrs_list PySem.F.slot_list_append PySem.F.type_list_append mt_append (pe_fld (pv 0) rfl) (pa_cons (pe_mk (ok_OpenPart__init T) (T.mkr 107) (T.glo 40) (hRm.mono (by decide)) (by rfl) (pa_cons pe_str (pa_cons (pv 2) pa_nil))) pa_nil)))))) (pss_one (ps_if (pt_cmpR op_eq (pe_ix ixL (pv 1) pe_int (fun _ _ => rfl)) pe_str (nomark _)) (pss_cons (ps_set (i := 3) sc_ScriptReader_take_command.nd rfl (.inl rfl) (pe_c (ok_poly_with_text T) (hRm.mono (by decide)) (by rfl) (pa_cons (pe_join pe_str (pe_slice sl_list (pv 1) (po_some pe_int) po_none)) pa_nil)))
    (pss_cons (ps_if (pt_cmpR op_isN (pv 3) pe_non (nomark _)) (pss_one (ps_ret pe_bl)) pss_nil)
    (pss_one (ps_expr (pe_bm PySem.F.plainAttrs_list PySem.F.slot_list_append PySem.F.type_list_append mt_append (pe_fld (pv 0) rfl) (pa_cons (pe_mk (ok_OpenPart__init T) (T.mkr 107) (T.glo 40) (hRm.mono (by decide)) (by rfl) (pa_cons pe_str (pa_cons (pv 3) pa_nil))) pa_nil)))))) (pss_cons (ps_set (i := 4) sc_ScriptReader_take_command.nd rfl (.inl rfl) (pe_c (ok_read_simple T) (hRm.mono (by decide)) (by rfl) (pa_cons (pv 1) pa_nil)))
    (pss_cons (ps_if (pt_cmpR op_isN (pv 4) pe_non (nomark _)) (pss_one (ps_ret pe_bl)) pss_nil)
    (pss_one (ps_expr (pe_mc (ok_OpenPart_take_inner T) (T.cls 106) (T.meth 113) (hRm.mono (by decide)) (pe_ix ixLast (pe_fld (pv 0) rfl) (pe_un un_neg pe_int) (fun _ _ => rfl)) (pa_cons (pv 4) pa_nil)))))))))
    (pss_one (ps_ret pe_bl))), ?_⟩
  have hlen := hR.ps.len
  cases l <;> try exact hst.elim
  case if_ t =>
    have e' : st' = _ := hst
    rw [e'] at q
    have hb : H b = some (.lst ((("if" : Str) :: t.words).map V.str)) := hb
    refine ⟨_, rfl, b, _, 0, _, rfl, rfl, hb, rfl, rfl, _, rfl, iteDt rfl ?_⟩
    refine ⟨_, rfl, 1, rfl, b, _, rfl, .of hb, fun c hc => ?_⟩
    obtain ⟨H1, e1, s1, hc1⟩ := slice1 (b := b) (z := "if") (ws := t.words) hc
    rw [e1]
    refine ⟨t, c, rfl, hc1, hfit, fun v H2 s2 hv hvn => ?_⟩
    refine ⟨_, rfl, rfl, _, rfl, iteDf hvn ?_⟩
    have s3 := s1.trans s2
    have hR2 := hR.same s3
    refine ⟨_, rfl, r, _, dx, _, _, rfl, s3 _ _ ho, T.cls 116, T.noat 121, rfl, .inl ⟨rfl, _, .of hR2.l4⟩, _, rfl, fun x dx2 hx hdx ne => ?_⟩
    refine ⟨x, dx2, _, _, rfl, upd_same, fun f o H3 sx hf ho2 nfo e1 e2 e3 => ⟨rfl, ?_⟩⟩
    obtain ⟨s4, hP, hd, hfr⟩ := newPart (hd := .if_ t) hx hdx ne sx hf ho2 nfo e1 e2 e3 hv hvn
    refine ⟨a4, _, _, rfl, rfl, s4 _ _ hR2.l4, by rw [List.length_map, hlen]; have := hsz.s; omega, ?_⟩
    exact Rdr.pushed q hR2 s3 s4 hP hd hfr
  case re p =>
    have e' : st' = _ := hst
    rw [e'] at q
    have hb : H b = some (.lst ((("repeat" : Str) :: polyWords p).map V.str)) := hb
    have hp : PolyOk p := hfit
    obtain ⟨hw1, hw2⟩ := polyWords_len hp
    refine ⟨_, rfl, b, _, 0, _, rfl, rfl, hb, rfl, rfl, _, rfl, iteDf (vs_ne (by decide +kernel)) ?_⟩
    refine ⟨_, rfl, b, _, 0, _, rfl, rfl, hb, rfl, rfl, _, rfl, iteDt rfl ?_⟩
    refine ⟨⟨_, rfl⟩, _, rfl, 1, rfl, b, _, rfl, .of hb, fun c hc => ?_⟩
    obtain ⟨H1, e1, s1, hc1⟩ := slice1 (b := b) (z := "repeat") (ws := polyWords p) hc
    rw [e1]
    refine ⟨_, c, polyWords p, rfl, rfl, .inl (.of hc1), ?_, ?_⟩
    · have e : (" " : Str).length = 1 := by decide +kernel
      rw [e]
      exact join_fits hw2 hw1 (by decide)
    rw [poly_join]
    refine ⟨p, rfl, hp, fun v H2 s2 hv hvn => ?_⟩
    refine ⟨_, rfl, rfl, _, rfl, iteDf hvn ?_⟩
    have s3 := s1.trans s2
    have hR2 := hR.same s3
    refine ⟨_, rfl, r, _, dx, _, _, rfl, s3 _ _ ho, T.cls 116, T.noat 121, rfl, .inl ⟨rfl, _, .of hR2.l4⟩, _, rfl, fun x dx2 hx hdx ne => ?_⟩
    refine ⟨x, dx2, _, _, rfl, upd_same, fun f o H3 sx hf ho2 nfo e1 e2 e3 => ⟨rfl, ?_⟩⟩
    obtain ⟨s4, hP, hd, hfr⟩ := newPart (hd := .re p) hx hdx ne sx hf ho2 nfo e1 e2 e3 hv hvn
    refine ⟨a4, _, _, rfl, rfl, s4 _ _ hR2.l4, by rw [List.length_map, hlen]; have := hsz.s; omega, ?_⟩
    exact Rdr.pushed q hR2 s3 s4 hP hd hfr
  case si s =>
    obtain ⟨ss, p, es, e'⟩ := hst
    rw [e'] at q
    have hs : s.fit := hfit
    obtain ⟨z, rr, hz, z1, z2, _, _⟩ := Si.head_ok hs
    have hb0 : H b = some (.lst (s.words.map V.str)) := hb
    have hb1 := hb0
    rw [hz] at hb1
    refine ⟨_, rfl, b, _, 0, _, rfl, rfl, hb1, rfl, rfl, _, rfl, iteDf (vs_ne z1) ?_⟩
    refine ⟨_, rfl, b, _, 0, _, rfl, rfl, hb1, rfl, rfl, _, rfl, iteDf (vs_ne z2) ?_⟩
    refine ⟨_, rfl, s, b, rfl, hb0, hs, fun v H1 s1 hv hvn => ?_⟩
    refine ⟨_, rfl, rfl, _, rfl, iteDf hvn ?_⟩
    have hR1 := hR.same s1
    have hps := hR1.ps
    rw [es] at hps
    obtain ⟨us, t, et, _, hT⟩ := hps.snoc
    subst et
    have hl4 := hR1.l4
    rw [List.map_append] at hl4
    have hl4 : H1 a4 = some (.lst (us.map (fun t => V.ref t.1) ++ [.ref t.1])) := hl4
    obtain ⟨dq, hvq, hoq, _, _⟩ := hT.ob
    obtain ⟨n1, n2, n3⟩ := hR1.tne
    have hq : p.sz 50000 := hsz.ps p (by rw [es]; simp)
    refine ⟨_, rfl, r, _, dx, _, _, rfl, s1 _ _ ho, T.cls 116, T.noat 121, rfl, 1, rfl, a4, _, _, rfl, rfl, hl4, ?_⟩
    refine ⟨t.1, dq, _, rfl, hoq, rfl, _, rfl, t, p, .si s, v, rfl, hT, n1, n2, n3, hv, Nat.le_trans hq.f (by decide), Nat.le_trans hq.o (by decide), fun H3 x3 k3 hT3 => ?_⟩
    have hR3 := hR1.top es (x3.mono (by intro b hb; simp [triL] at hb ⊢; rcases hb with e | e <;> simp [e])) k3 hT3
    refine q (us ++ [t]) H3 ((same_x s1 _).trans (x3.mono fun b hb => ?_)) ((same_tk s1).trans k3) (fun b hb => .inl hb) hR3
    have : b ∈ triA (us ++ [t]) := by rw [triA_app, triA_one]; simp [triL] at hb ⊢; rcases hb with e | e <;> simp [e]
    exact List.mem_cons_of_mem _ (List.mem_cons_of_mem _ (List.mem_cons_of_mem _ (List.mem_cons_of_mem _ (List.mem_cons_of_mem _ this))))
end
end NP
/-! NPReader5 -/
namespace NP
open PySem PySem.Spec PyProof.Rows L2 TL
theorem sp1 : tl (" " : Str) = [32] := by decide +kernel
theorem tw_rep (p : Nat → Bool) (k : Nat) (l : List Nat) (h : p 32 = true) (hl : l.takeWhile p = []) : ((List.replicate k 32 ++ l).takeWhile p).length = k := by
  induction k with
  | zero => simp [hl]
  | succ k ih =>
    rw [List.replicate_succ, List.cons_append, List.takeWhile_cons, if_pos h, List.length_cons, ih]
theorem lstrip_line (k : Nat) (z : Str) (h : tl z = [] ∨ ∃ c r, tl z = c :: r ∧ c ≠ 32) : Txt.lstripChars (repS " " k ++ z) " " = z := by
  refine sx ?_
  have e : tl (repS " " k ++ z) = List.replicate k 32 ++ tl z := by
    rw [tl_append, tl_repS, sp1]
    congr 1
    induction k with
    | zero => rfl
    | succ k ih => rw [List.replicate_succ, List.replicate_succ, List.flatten_cons, ih]; rfl
  have hp : (" " : Str).cps.contains 32 = true := by decide +kernel
  have hz : (tl z).takeWhile (" " : Str).cps.contains = [] := by
    rcases h with h | ⟨c, r, h, hc⟩
    · rw [h]; rfl
    · rw [h, List.takeWhile_cons, if_neg]
      intro hm
      have : c ∈ tl (" " : Str) := by simpa [tl] using Array.contains_iff_mem.mp hm
      rw [sp1] at this
      exact hc (List.mem_singleton.mp this)
  have lo : stripLo (" " : Str).cps.contains true (repS " " k ++ z) = k := by
    unfold stripLo
    rw [if_pos rfl]
    show ((tl (repS " " k ++ z)).takeWhile _).length = k
    rw [e]
    exact tw_rep _ k _ hp hz
  unfold Txt.lstripChars
  rw [PyProof.Rows.stripBy_eq, lo]
  show tl (Builtin.Str.strSub (repS " " k ++ z) k (stripHi (" " : Str).cps.contains false (repS " " k ++ z) k)) = tl z
  have hi : stripHi (" " : Str).cps.contains false (repS " " k ++ z) k = (repS " " k ++ z).length := rfl
  rw [hi, tl_strSub_end, e, List.drop_left' (by rw [List.length_replicate])]
theorem pw_ok {p : Poly} (h : PolyOk p) : ∀ z ∈ polyWords p, 32 ∉ tl z := by
  unfold polyWords
  by_cases h0 : p = []
  · rw [if_pos h0]
    intro z hz
    rw [List.mem_singleton.mp hz]
    decide +kernel
  · rw [if_neg h0]
    intro z hz
    rcases inter_mem _ _ _ hz with e | hz
    · rw [e]; decide +kernel
    · obtain ⟨q, _, rfl⟩ := List.mem_map.mp hz
      exact tp_nospace q
theorem cell_nosp {a i : Str} (ha : 32 ∉ tl a) (hi : 32 ∉ tl i) : 32 ∉ tl (cellS a i) := by
  unfold cellS
  rw [tl_append, tl_append, tl_append, lb1, rb1]
  simp only [List.mem_append, List.mem_singleton, not_or]
  exact ⟨ha, by decide, hi, by decide⟩
theorem pl_nosp {p : Pl} (h : p.fit) : ∀ z ∈ p.words, 32 ∉ tl z := by
  have hpu := Parts.pure h
  have l1 : 32 ∉ tl ("is" : Str) := by decide +kernel
  have l2 : 32 ∉ tl ("equals" : Str) := by decide +kernel
  have l3 : 32 ∉ tl ("empty" : Str) := by decide +kernel
  have l4 : 32 ∉ tl ("has" : Str) := by decide +kernel
  have l5 : 32 ∉ tl ("=" : Str) := by decide +kernel
  cases p <;> simp only [Pl.args, Pl.words, List.mem_cons, List.not_mem_nil, or_false, forall_eq_or_imp, forall_eq] at hpu ⊢
  · exact ⟨cell_nosp hpu.1.2.1 hpu.2.1.2.1, l1, hpu.2.2.2.1⟩
  · exact ⟨cell_nosp hpu.1.2.1 hpu.2.1.2.1, l2, cell_nosp hpu.2.2.1.2.1 hpu.2.2.2.2.1⟩
  · exact ⟨cell_nosp hpu.1.2.1 hpu.2.2.1, l3⟩
  · exact ⟨hpu.1.2.1, l4, hpu.2.2.1⟩
  · exact ⟨hpu.1.2.1, l5, hpu.2.2.1⟩
theorem tst_nosp : ∀ {t : Tst}, t.base.fit → ∀ z ∈ t.words, 32 ∉ tl z
  | .pl p, h => pl_nosp h
  | .no t, h => fun z hz => (List.mem_cons.mp hz).elim (fun e => by rw [e]; decide +kernel) (tst_nosp (t := t) h z)
theorem si_nosp {s : Si} (h : s.fit) : ∀ z ∈ s.words, 32 ∉ tl z := by
  have hpu := Parts.pure h
  have l1 : 32 ∉ tl ("=" : Str) := by decide +kernel
  have l2 : 32 ∉ tl ("empty" : Str) := by decide +kernel
  have l3 : 32 ∉ tl ("0" : Str) := by decide +kernel
  have l4 : 32 ∉ tl ("up" : Str) := by decide +kernel
  have l5 : 32 ∉ tl ("down" : Str) := by decide +kernel
  have l6 : 32 ∉ tl ("do" : Str) := by decide +kernel
  have l7 : 32 ∉ tl ("chooses" : Str) := by decide +kernel
  have l8 : 32 ∉ tl ("from" : Str) := by decide +kernel
  have l9 : 32 ∉ tl ("wins" : Str) := by decide +kernel
  cases s <;> simp only [Si.args, Si.words, List.mem_cons, List.not_mem_nil, or_false, forall_eq_or_imp, forall_eq] at hpu ⊢
  · exact ⟨cell_nosp hpu.1.2.1 hpu.2.1.2.1, l1, hpu.2.2.2.1⟩
  · exact ⟨cell_nosp hpu.1.2.1 hpu.2.1.2.1, l1, cell_nosp hpu.2.2.1.2.1 hpu.2.2.2.2.1⟩
  · exact ⟨cell_nosp hpu.1.2.1 hpu.2.2.1, l1, l2⟩
  · exact ⟨hpu.2.1, l1, l3⟩
  · exact ⟨l4, hpu.2.1⟩
  · exact ⟨l5, hpu.2.1⟩
  · exact ⟨hpu.1.2.1, l1, hpu.2.2.1⟩
  · exact ⟨l6, hpu.2.1⟩
  · exact ⟨hpu.1.2.1, l7, cell_nosp hpu.2.1.2.1 hpu.2.2.1.2.1, l8, hpu.2.2.2.2.1⟩
  · exact ⟨hpu.2.1, l9⟩
theorem Ln.nosp {l : Ln} (h : l.fit) : ∀ z ∈ l.words, 32 ∉ tl z := by
  cases l with
  | tape n p =>
    intro z hz
    rcases List.mem_cons.mp hz with e | hz
    · rw [e]; decide +kernel
    rcases List.mem_cons.mp hz with e | hz
    · rw [e]; exact (nm_pure h.1).2.1
    rcases List.mem_cons.mp hz with e | hz
    · rw [e]; decide +kernel
    exact pw_ok h.2 z hz
  | idx n p =>
    intro z hz
    rcases List.mem_cons.mp hz with e | hz
    · rw [e]; decide +kernel
    rcases List.mem_cons.mp hz with e | hz
    · rw [e]; exact (nm_pure h.1).2.1
    rcases List.mem_cons.mp hz with e | hz
    · rw [e]; decide +kernel
    exact pw_ok h.2 z hz
  | proc n =>
    intro z hz
    rcases List.mem_cons.mp hz with e | hz
    · rw [e]; decide +kernel
    rw [List.mem_singleton.mp hz]
    exact (nm_pure h).2.1
  | si s => exact si_nosp h
  | re p =>
    intro z hz
    rcases List.mem_cons.mp hz with e | hz
    · rw [e]; decide +kernel
    exact pw_ok h z hz
  | if_ t =>
    intro z hz
    rcases List.mem_cons.mp hz with e | hz
    · rw [e]; decide +kernel
    exact tst_nosp h.1 z hz
  | els => intro z hz; rw [List.mem_singleton.mp hz]; decide +kernel
  | fin => intro z hz; rw [List.mem_singleton.mp hz]; decide +kernel
/-- the first word, and that it is no word of another sort -/
def Ln.key : Ln → Str
  | .tape .. => "tape" | .idx .. => "index" | .proc .. => "procedure" | .re .. => "repeat" | .if_ .. => "if" | .els => "else" | .fin => "end" | .si s => s.words.headD ""
theorem Ln.head_ne {l : Ln} (h : l.fit) : ∃ z r, l.words = z :: r ∧ tl z ≠ [] := by
  cases l with
  | tape n p => exact ⟨_, _, rfl, by decide +kernel⟩
  | idx n p => exact ⟨_, _, rfl, by decide +kernel⟩
  | proc n => exact ⟨_, _, rfl, by decide +kernel⟩
  | re p => exact ⟨_, _, rfl, by decide +kernel⟩
  | if_ t => exact ⟨_, _, rfl, by decide +kernel⟩
  | els => exact ⟨_, _, rfl, by decide +kernel⟩
  | fin => exact ⟨_, _, rfl, by decide +kernel⟩
  | si s =>
    have hpu := Parts.pure (show Parts s.kinds s.args from h)
    have c : ∀ a i : Str, tl (cellS a i) ≠ [] := fun a i e => by
      have := cell_mem a i
      rw [e] at this
      cases this
    cases s <;> simp only [Si.args, List.mem_cons, List.not_mem_nil, or_false, forall_eq_or_imp, forall_eq] at hpu
    · exact ⟨_, _, rfl, c _ _⟩
    · exact ⟨_, _, rfl, c _ _⟩
    · exact ⟨_, _, rfl, c _ _⟩
    · exact ⟨_, _, rfl, hpu.2.2⟩
    · exact ⟨_, _, rfl, by decide +kernel⟩
    · exact ⟨_, _, rfl, by decide +kernel⟩
    · exact ⟨_, _, rfl, hpu.1.2.2⟩
    · exact ⟨_, _, rfl, by decide +kernel⟩
    · exact ⟨_, _, rfl, hpu.1.2.2⟩
    · exact ⟨_, _, rfl, hpu.2.2⟩
theorem Ln.text_head {l : Ln} (h : l.fit) : ∃ c r, tl l.text = c :: r ∧ c ≠ 32 := by
  obtain ⟨z, r, hz, hn⟩ := l.head_ne h
  have hs := Ln.nosp h z (by rw [hz]; simp)
  unfold Ln.text
  rw [tl_jn, hz]
  match hzt : tl z, hn with
  | c :: t, _ =>
    rw [hzt] at hs
    have hc : c ≠ 32 := fun e => hs (by rw [e]; simp)
    cases r with
    | nil => exact ⟨c, t, by show tl z = _; exact hzt, hc⟩
    | cons y ys => exact ⟨c, _, by show tl z ++ _ = _; rw [hzt]; rfl, hc⟩
theorem Ln.split {l : Ln} (h : l.fit) : Txt.split l.text " " = l.words := by
  obtain ⟨z, r, hz, _⟩ := l.head_ne h
  exact split_joinS (y := " ") (s := 32) (S := []) sp1 (by decide +kernel) (by rw [hz]; simp) (Ln.nosp h)
theorem blank_split : Txt.split ("" : Str) " " = [("" : Str)] :=
  split_joinS (y := " ") (s := 32) (S := []) (parts := [("" : Str)]) sp1 (by decide +kernel) (by simp) fun p hp => by
    rw [List.mem_singleton.mp hp]
    decide +kernel
def Ln.isHead : Ln → Bool
  | .tape .. => true | .idx .. => true | .proc .. => true | _ => false
def LnStep (st : RSt) (l : Ln) (st' : RSt) : Prop := match l with
  | .tape n p => st.stack = [] ∧ HeadStep st (.tape n p) st'
  | .idx n p => st.stack = [] ∧ HeadStep st (.idx n p) st'
  | .proc n => st.stack = [] ∧ HeadStep st (.proc n) st'
  | .si s => st.stack ≠ [] ∧ CmdStep st (.si s) st'
  | .re p => st.stack ≠ [] ∧ CmdStep st (.re p) st'
  | .if_ t => st.stack ≠ [] ∧ CmdStep st (.if_ t) st'
  | .els => ∃ ss p, st.stack = ss ++ [p] ∧ p.hd.kind = ("if" : Str) ∧ p.els = false ∧ st' = { st with stack := ss ++ [{ p with els := true }] }
  | .fin => st.stack ≠ [] ∧ EndStep st st'
/-- a line: its blanks, and what stands behind them -/
def lineS (k : Nat) (o : Option Ln) : Str := repS " " k ++ (match o with | none => ("" : Str) | some l => l.text)
def LineStep (st : RSt) (o : Option Ln) (st' : RSt) : Prop := match o with
  | none => st' = st
  | some l => l.fit ∧ LnStep st l st'
end NP
/-! NPReader6 -/
namespace NP
open PySem PySem.Spec PyProof.Rows L2 TL
theorem Ln.not_end {l : Ln} (h : l.fit) (hn : l ≠ .fin) (hh : l.isHead = false) : l.words ≠ [("end" : Str)] := by
  cases l with
  | tape n p => cases hh
  | idx n p => cases hh
  | proc n => cases hh
  | si s =>
    obtain ⟨z, r, hz, _, _, h3, _⟩ := Si.head_ok (s := s) h
    show s.words ≠ _
    rw [hz]
    exact fun e => h3 (List.cons.inj e).1
  | re p => exact fun e => absurd (List.cons.inj e).1 (by decide +kernel)
  | if_ t => exact fun e => absurd (List.cons.inj e).1 (by decide +kernel)
  | els => exact fun e => absurd (List.cons.inj e).1 (by decide +kernel)
  | fin => exact absurd rfl hn
theorem Ln.not_else {l : Ln} (h : l.fit) (hn : l ≠ .els) (hh : l.isHead = false) : l.words ≠ [("else" : Str)] := by
  cases l with
  | tape n p => cases hh
  | idx n p => cases hh
  | proc n => cases hh
  | si s =>
    obtain ⟨z, r, hz, _, _, _, h3⟩ := Si.head_ok (s := s) h
    show s.words ≠ _
    rw [hz]
    exact fun e => h3 (List.cons.inj e).1
  | re p => exact fun e => absurd (List.cons.inj e).1 (by decide +kernel)
  | if_ t => exact fun e => absurd (List.cons.inj e).1 (by decide +kernel)
  | els => exact absurd rfl hn
  | fin => exact fun e => absurd (List.cons.inj e).1 (by decide +kernel)
/-- from a heap with a new list in front -/
theorem Rdr.after {K : PySem.W.Frag} {H H1 : Hp} {r a1 a2 a3 a4 : Addr} {ts : List Tri} {st' : RSt} {C : Hp → Prop} (q : Rdr K H r a1 a2 a3 a4 ts st' C) (s : Same H H1) : Rdr K H1 r a1 a2 a3 a4 ts st' C := fun ts' H' x k n R =>
  q ts' H' ((same_x s _).trans x) ((same_tk s).trans k) (fun b hb => (n b hb).imp id fun h => SameX.free (S := []) (same_x s _) h (by simp)) R
section
variable {P : Program} {w : World} {K : PySem.W.Frag} {mg : Str → Option Value} {base : Heap}
def sp_ScriptReader_take_line (K : PySem.W.Frag) : Sp := fun vs H Q _ => ∃ (r a1 a2 a3 a4 : Addr) (ts : List Tri) (st st' : RSt) (k : Nat) (o : Option Ln), vs = [.ref r, .str (lineS k o)] ∧ RA K H r a1 a2 a3 a4 ts st ∧ st.sz 50000 ∧ k ≤ 1000 ∧ LineStep st o st' ∧ Rdr K H r a1 a2 a3 a4 ts st' (Q (.bl true))
abbrev nn_ScriptReader_take_line : List Str := ["self", "line", "words"]
theorem sc_ScriptReader_take_line : FnScope nn_ScriptReader_take_line ["self", "line"] d_ScriptReader_take_line.scope := ⟨rfl, rfl, rfl, by decide +kernel, rfl, by decide +kernel, by decide +kernel⟩
theorem ok_ScriptReader_take_line (T : Top w K mg) : OKM P w K mg base 12 "ScriptReader" "take_line" ["self", "line"] (sp_ScriptReader_take_line K) := by
  refine HasM.ok (d := d_ScriptReader_take_line) (T.hasM 38 rfl rfl rfl rfl) sc_ScriptReader_take_line (fun _ _ _ _ _ _ us hl => match us, hl with | [_, _], _ => rfl) (by rintro _ _ _ _ ⟨_, _, _, _, _, _, _, _, _, _, rfl, _⟩; rfl) (fun f cdv A outer s H vs Q E hRm h => ?_)
  obtain ⟨r, a1, a2, a3, a4, ts, st, st', k, o, rfl, hR, hsz, hk, hst, q⟩ := h
  have big : 200000 ≤ sizeLine := by decide
  have hbl : (repS " " k).length = k := by
    rw [len_tl, tl_repS]
    simp [show (tl (" " : Str)).length = 1 by decide +kernel]
  refine ⟨_, (pss_cons (ps_set (i := 2) sc_ScriptReader_take_line.nd rfl (.inl rfl) (pe_split (pe_m1 PySem.F.slot_str_lstrip PySem.F.type_str_lstrip mt_lstripChars (pv 1) pe_str) pe_str))
    (pss_cons (ps_if (pt_cmpR (op_eqLs hRm.units0) (pv 2) (pe_lst (pa_cons pe_str pa_nil)) (nomark _)) (pss_one (ps_ret pe_bl)) pss_nil)
    (pss_cons (ps_if (pt_not (pt_val (pe_mc0 (ok_ScriptReader_is_open T) (T.cls 116) (T.meth 123) (hRm.mono (by decide)) (pv 0)))) (pss_one (ps_ret (pe_mc (ok_ScriptReader_take_head T) (T.cls 116) (T.meth 125) (hRm.mono (by decide)) (pv 0) (pa_cons (pv 2) pa_nil)))) pss_nil)
    (pss_cons (ps_if (pt_cmpR (op_eqLs hRm.units0) (pv 2) (pe_lst (pa_cons pe_str pa_nil)) (nomark _)) (pss_cons (ps_expr (pe_mc0 (ok_ScriptReader_take_end T) (T.cls 116) (T.meth 126) (hRm.mono (by decide)) (pv 0)))
    (pss_one (ps_ret pe_bl))) pss_nil)
    (pss_cons (ps_if (pt_cmpR (op_eqLs hRm.units0) (pv 2) (pe_lst (pa_cons pe_str pa_nil)) (nomark _)) (pss_one (ps_ret (pe_mc0 (ok_OpenPart_take_else T) (T.cls 106) (T.meth 114) (hRm.mono (by decide)) (pe_ix ixLast (pe_fld (pv 0) rfl) (pe_un un_neg pe_int) (fun _ _ => rfl))))) pss_nil)
    (pss_one (ps_ret (pe_mc (ok_ScriptReader_take_command T) (T.cls 116) (T.meth 127) (hRm.mono (by decide)) (pv 0) (pa_cons (pv 2) pa_nil))))))))), ?_⟩
  cases o with
  | none =>
    have e' : st' = st := hst
    subst e'
    have hz : (lineS k none).length ≤ sizeLine := by
      unfold lineS
      rw [s_len, hbl]
      have : ("" : Str).length = 0 := by decide
      show k + ("" : Str).length ≤ _
      omega
    refine ⟨_, rfl, ⟨_, rfl⟩, _, _, rfl, rfl, hz, ⟨_, rfl⟩, _, _, rfl, rfl, by decide +kernel, ?_, ?_⟩
    · rw [show Txt.lstripChars (lineS k none) " " = ("" : Str) from lstrip_line k "" (.inl (by decide +kernel))]
      decide +kernel
    rw [show Txt.lstripChars (lineS k none) " " = ("" : Str) from lstrip_line k "" (.inl (by decide +kernel)), blank_split]
    intro W hW
    have s1 : Same H (upd H W (.lst ([("" : Str)].map V.str))) := same_upd hW
    have hW1 : (upd H W (.lst ([("" : Str)].map V.str))) W = some (.lst ([("" : Str)].map V.str)) := upd_same
    generalize upd H W (.lst ([("" : Str)].map V.str)) = H1 at s1 hW1 ⊢
    refine ⟨_, rfl, by show 1 ≤ sizeLine; decide, fun b hb => ?_⟩
    have s2 : Same H1 (upd H1 b (.lst [.str ""])) := same_upd hb
    refine ⟨W, b, [("" : Str)], [("" : Str)], rfl, rfl, s2 _ _ hW1, upd_same, _, rfl, iteDt rfl ?_⟩
    have s3 := s1.trans s2
    exact q ts _ (same_x s3 _) (same_tk s3) (fun b hb => .inl hb) (hR.same s3)
  | some l =>
    obtain ⟨hfit, hst⟩ := hst
    obtain ⟨hc, hr, hch, hc32⟩ := l.text_head hfit
    have htl := Ln.text_len hfit
    have hz : (lineS k (some l)).length ≤ sizeLine := by
      unfold lineS
      rw [s_len, hbl]
      show k + l.text.length ≤ _
      omega
    refine ⟨_, rfl, ⟨_, rfl⟩, _, _, rfl, rfl, hz, ⟨_, rfl⟩, _, _, rfl, rfl, by decide +kernel, ?_, ?_⟩
    · rw [show Txt.lstripChars (lineS k (some l)) " " = l.text from lstrip_line k l.text (.inr ⟨hc, hr, hch, hc32⟩)]
      omega
    rw [show Txt.lstripChars (lineS k (some l)) " " = l.text from lstrip_line k l.text (.inr ⟨hc, hr, hch, hc32⟩), Ln.split hfit]
    intro W hW
    have s1 : Same H (upd H W (.lst (l.words.map V.str))) := same_upd hW
    have hW1 : (upd H W (.lst (l.words.map V.str))) W = some (.lst (l.words.map V.str)) := upd_same
    generalize upd H W (.lst (l.words.map V.str)) = H1 at s1 hW1 ⊢
    refine ⟨_, rfl, by show 1 ≤ sizeLine; decide, fun b hb => ?_⟩
    have s2 : Same H1 (upd H1 b (.lst [.str ""])) := same_upd hb
    obtain ⟨z, rr, hzw, hzn⟩ := l.head_ne hfit
    refine ⟨W, b, l.words, [("" : Str)], rfl, rfl, s2 _ _ hW1, upd_same, _, rfl, iteDf (fun e => hzn (by rw [hzw] at e; rw [(List.cons.inj e).1]; decide +kernel)) ?_⟩
    have s3 := s1.trans s2
    have hW2 := s2 _ _ hW1
    generalize upd H1 b (.lst [.str ""]) = H2 at s2 s3 hW2 ⊢
    have hR2 := hR.same s3
    have q2 := q.after s3
    obtain ⟨dx2, ho2⟩ := hR2.ob
    refine ⟨_, rfl, r, dx2, _, rfl, ho2, rfl, r, a1, a2, a3, a4, ts, st, rfl, hR2, _, rfl, ?_⟩
    have head : st.stack = [] → HeadStep st l st' → (∃ (x : Addr) (dx : Addr) (fs : List (Str × V)), True) := fun _ _ => ⟨r, r, [], trivial⟩
    by_cases hs0 : st.stack = []
    · -- a head line
      have hhead : HeadStep st l st' := by
        cases l with
        | tape n p => exact hst.2
        | idx n p => exact hst.2
        | proc n => exact hst.2
        | si s => exact absurd hs0 hst.1
        | re p => exact absurd hs0 hst.1
        | if_ t => exact absurd hs0 hst.1
        | els =>
          obtain ⟨ss, p, e, _⟩ := hst
          rw [hs0] at e
          exact absurd e (by simp)
        | fin => exact absurd hs0 hst.1
      refine iteNt (by rw [hs0]; simp) ?_
      exact ⟨_, rfl, r, dx2, _, rfl, ho2, rfl, _, rfl, r, a1, a2, a3, a4, W, ts, st, st', l, rfl, hR2, hsz, hfit, hW2, hhead, q2⟩
    · refine iteNf (List.length_pos_iff.mpr hs0) ?_
      have hnh : l.isHead = false := by
        cases l with
        | tape n p => exact absurd hst.1 hs0
        | idx n p => exact absurd hst.1 hs0
        | proc n => exact absurd hst.1 hs0
        | _ => rfl
      refine ⟨_, rfl, by show 1 ≤ sizeLine; decide, fun b2 hb2 => ?_⟩
      have s4 : Same H2 (upd H2 b2 (.lst [.str "end"])) := same_upd hb2
      refine ⟨W, b2, l.words, [("end" : Str)], rfl, rfl, s4 _ _ hW2, upd_same, _, rfl, ?_⟩
      generalize upd H2 b2 (.lst [.str "end"]) = H3 at s4 ⊢
      have hW3 := s4 _ _ hW2
      have hR3 := hR2.same s4
      have q3 := q2.after s4
      have ho3 := s4 _ _ ho2
      by_cases hfin : l = .fin
      · subst hfin
        refine iteDt rfl ?_
        exact ⟨_, rfl, r, dx2, _, rfl, ho3, rfl, r, a1, a2, a3, a4, ts, st, st', rfl, hR3, hsz, hst.2, q3⟩
      · refine iteDf (l.not_end hfit hfin hnh) ⟨_, rfl, by show 1 ≤ sizeLine; decide, fun b3 hb3 => ?_⟩
        have s5 : Same H3 (upd H3 b3 (.lst [.str "else"])) := same_upd hb3
        refine ⟨W, b3, l.words, [("else" : Str)], rfl, rfl, s5 _ _ hW3, upd_same, _, rfl, ?_⟩
        generalize upd H3 b3 (.lst [.str "else"]) = H4 at s5 ⊢
        have hW4 := s5 _ _ hW3
        have hR4 := hR3.same s5
        have q4 := q3.after s5
        have ho4 := s5 _ _ ho3
        by_cases hels : l = .els
        · subst hels
          obtain ⟨ss, p, es, hkd, hel, e'⟩ := hst
          have hps := hR4.ps
          rw [es] at hps
          obtain ⟨us, t, et, _, hT⟩ := hps.snoc
          subst et
          have hl4 := hR4.l4
          rw [List.map_append] at hl4
          have hl4 : H4 a4 = some (.lst (us.map (fun t => V.ref t.1) ++ [.ref t.1])) := hl4
          obtain ⟨dq, hvq, hoq, _, _⟩ := hT.ob
          obtain ⟨n1, n2, n3⟩ := hR4.tne
          refine iteDt rfl ?_
          refine ⟨_, rfl, r, _, dx2, _, _, rfl, ho4, T.cls 116, T.noat 121, rfl, 1, rfl, a4, _, _, rfl, rfl, hl4, ?_⟩
          refine ⟨t.1, dq, _, rfl, hoq, rfl, t, p, rfl, hT, n1, n2, hkd, hel, fun H5 x5 k5 hT5 => ?_⟩
          have hR5 := hR4.top es (x5.mono (by intro b hb; simp [triL] at hb ⊢; simp [hb])) k5 hT5
          rw [e'] at q4
          refine q4 (us ++ [t]) H5 (x5.mono fun b hb => ?_) k5 (fun b hb => .inl hb) hR5
          have : b ∈ triA (us ++ [t]) := by rw [triA_app, triA_one]; simp [triL] at hb ⊢; simp [hb]
          exact List.mem_cons_of_mem _ (List.mem_cons_of_mem _ (List.mem_cons_of_mem _ (List.mem_cons_of_mem _ (List.mem_cons_of_mem _ this))))
        · refine iteDf (l.not_else hfit hels hnh) ?_
          have hcmd : CmdStep st l st' := by
            cases l with
            | tape n p => cases hnh
            | idx n p => cases hnh
            | proc n => cases hnh
            | si s => exact hst.2
            | re p => exact hst.2
            | if_ t => exact hst.2
            | els => exact absurd rfl hels
            | fin => exact absurd rfl hfin
          exact ⟨_, rfl, r, dx2, _, rfl, ho4, rfl, _, rfl, r, a1, a2, a3, a4, W, ts, st, st', l, rfl, hR4, hsz, hfit, hW4, hcmd, q4⟩
end
end NP
/-! NPReader7 -/
namespace NP
open PySem PySem.Spec PyProof.Rows L2 TL
/-! ### no line break within a line -/
theorem nm_nonl {z : Str} (h : Nm z) : 10 ∉ tl z := (by decide +kernel : ∀ z ∈ allNames, 10 ∉ tl z) z h
theorem part_nonl {k z : Str} (h : PartOk k z) : 10 ∉ tl z := by
  unfold PartOk at h
  split at h
  · exact (by decide +kernel : ∀ z ∈ letters4, 10 ∉ tl z) z h
  · split at h
    · exact fun hm => absurd (h.2.2.1 _ hm).1 (by decide)
    · split at h
      · rcases h with rfl | rfl <;> decide +kernel
      · exact nm_nonl h
theorem Parts.nonl : ∀ {ks zs : List Str}, Parts ks zs → ∀ z ∈ zs, 10 ∉ tl z
  | [], [], _ => fun z hz => by cases hz
  | _ :: _, _ :: _, h => fun z hz => (List.mem_cons.mp hz).elim (fun e => by rw [e]; exact part_nonl h.1) (Parts.nonl h.2 z)
theorem tp_nonl (q : Nat × Nat) : 10 ∉ tl (textPair q) := by
  obtain ⟨e, c⟩ := q
  by_cases h : e = 0
  · subst h
    rw [tp_zero, tl_n]
    exact numL_free (.inl (by decide))
  · rw [tp_pos c h, tl_append, tl_append]
    intro hm
    have e1 : tl ("n" : Str) = [110] := by decide +kernel
    rw [e1] at hm
    rcases List.mem_append.mp hm with q | q
    · rcases List.mem_append.mp q with q | q
      · exact tpF_free (.inl (by decide)) q
      · exact absurd (List.mem_singleton.mp q) (by decide)
    · exact tpB_free (.inl (by decide)) q
theorem pw_nl {p : Poly} (h : PolyOk p) : ∀ z ∈ polyWords p, 10 ∉ tl z := by
  unfold polyWords
  by_cases h0 : p = []
  · rw [if_pos h0]
    intro z hz
    rw [List.mem_singleton.mp hz]
    decide +kernel
  · rw [if_neg h0]
    intro z hz
    rcases inter_mem _ _ _ hz with e | hz
    · rw [e]; decide +kernel
    · obtain ⟨q, _, rfl⟩ := List.mem_map.mp hz
      exact tp_nonl q
theorem cell_nonl {a i : Str} (ha : 10 ∉ tl a) (hi : 10 ∉ tl i) : 10 ∉ tl (cellS a i) := by
  unfold cellS
  rw [tl_append, tl_append, tl_append, lb1, rb1]
  simp only [List.mem_append, List.mem_singleton, not_or]
  exact ⟨ha, by decide, hi, by decide⟩
theorem pl_nonl {p : Pl} (h : p.fit) : ∀ z ∈ p.words, 10 ∉ tl z := by
  have hpu := Parts.nonl h
  have l1 : 10 ∉ tl ("is" : Str) := by decide +kernel
  have l2 : 10 ∉ tl ("equals" : Str) := by decide +kernel
  have l3 : 10 ∉ tl ("empty" : Str) := by decide +kernel
  have l4 : 10 ∉ tl ("has" : Str) := by decide +kernel
  have l5 : 10 ∉ tl ("=" : Str) := by decide +kernel
  cases p <;> simp only [Pl.args, Pl.words, List.mem_cons, List.not_mem_nil, or_false, forall_eq_or_imp, forall_eq] at hpu ⊢
  · exact ⟨cell_nonl hpu.1 hpu.2.1, l1, hpu.2.2⟩
  · exact ⟨cell_nonl hpu.1 hpu.2.1, l2, cell_nonl hpu.2.2.1 hpu.2.2.2⟩
  · exact ⟨cell_nonl hpu.1 hpu.2, l3⟩
  · exact ⟨hpu.1, l4, hpu.2⟩
  · exact ⟨hpu.1, l5, hpu.2⟩
theorem tst_nonl : ∀ {t : Tst}, t.base.fit → ∀ z ∈ t.words, 10 ∉ tl z
  | .pl p, h => pl_nonl h
  | .no t, h => fun z hz => (List.mem_cons.mp hz).elim (fun e => by rw [e]; decide +kernel) (tst_nonl (t := t) h z)
theorem si_nonl {s : Si} (h : s.fit) : ∀ z ∈ s.words, 10 ∉ tl z := by
  have hpu := Parts.nonl h
  have l1 : 10 ∉ tl ("=" : Str) := by decide +kernel
  have l2 : 10 ∉ tl ("empty" : Str) := by decide +kernel
  have l3 : 10 ∉ tl ("0" : Str) := by decide +kernel
  have l4 : 10 ∉ tl ("up" : Str) := by decide +kernel
  have l5 : 10 ∉ tl ("down" : Str) := by decide +kernel
  have l6 : 10 ∉ tl ("do" : Str) := by decide +kernel
  have l7 : 10 ∉ tl ("chooses" : Str) := by decide +kernel
  have l8 : 10 ∉ tl ("from" : Str) := by decide +kernel
  have l9 : 10 ∉ tl ("wins" : Str) := by decide +kernel
  cases s <;> simp only [Si.args, Si.words, List.mem_cons, List.not_mem_nil, or_false, forall_eq_or_imp, forall_eq] at hpu ⊢
  · exact ⟨cell_nonl hpu.1 hpu.2.1, l1, hpu.2.2⟩
  · exact ⟨cell_nonl hpu.1 hpu.2.1, l1, cell_nonl hpu.2.2.1 hpu.2.2.2⟩
  · exact ⟨cell_nonl hpu.1 hpu.2, l1, l2⟩
  · exact ⟨hpu, l1, l3⟩
  · exact ⟨l4, hpu⟩
  · exact ⟨l5, hpu⟩
  · exact ⟨hpu.1, l1, hpu.2⟩
  · exact ⟨l6, hpu⟩
  · exact ⟨hpu.1, l7, cell_nonl hpu.2.1 hpu.2.2.1, l8, hpu.2.2.2⟩
  · exact ⟨hpu, l9⟩
theorem Ln.nonl {l : Ln} (h : l.fit) : ∀ z ∈ l.words, 10 ∉ tl z := by
  cases l with
  | tape n p =>
    intro z hz
    rcases List.mem_cons.mp hz with e | hz
    · rw [e]; decide +kernel
    rcases List.mem_cons.mp hz with e | hz
    · rw [e]; exact nm_nonl h.1
    rcases List.mem_cons.mp hz with e | hz
    · rw [e]; decide +kernel
    exact pw_nl h.2 z hz
  | idx n p =>
    intro z hz
    rcases List.mem_cons.mp hz with e | hz
    · rw [e]; decide +kernel
    rcases List.mem_cons.mp hz with e | hz
    · rw [e]; exact nm_nonl h.1
    rcases List.mem_cons.mp hz with e | hz
    · rw [e]; decide +kernel
    exact pw_nl h.2 z hz
  | proc n =>
    intro z hz
    rcases List.mem_cons.mp hz with e | hz
    · rw [e]; decide +kernel
    rw [List.mem_singleton.mp hz]
    exact nm_nonl h
  | si s => exact si_nonl h
  | re p =>
    intro z hz
    rcases List.mem_cons.mp hz with e | hz
    · rw [e]; decide +kernel
    exact pw_nl h z hz
  | if_ t =>
    intro z hz
    rcases List.mem_cons.mp hz with e | hz
    · rw [e]; decide +kernel
    exact tst_nonl h.1 z hz
  | els => intro z hz; rw [List.mem_singleton.mp hz]; decide +kernel
  | fin => intro z hz; rw [List.mem_singleton.mp hz]; decide +kernel
theorem joinL_free (s c : Nat) (hc : c ≠ s) : ∀ ps : List (List Nat), (∀ p ∈ ps, c ∉ p) → c ∉ joinL [s] ps
  | [], _ => fun h => by cases h
  | [a], h => h a (List.mem_singleton.mpr rfl)
  | a :: b :: r, h => by
    show c ∉ a ++ ([s] ++ joinL [s] (b :: r))
    simp only [List.mem_append, List.mem_singleton, not_or]
    exact ⟨h a (List.mem_cons_self ..), hc, joinL_free s c hc (b :: r) fun p hp => h p (List.mem_cons_of_mem _ hp)⟩
theorem line_nonl (k : Nat) (o : Option Ln) (h : ∀ l, o = some l → l.fit) : 10 ∉ tl (lineS k o) := by
  unfold lineS
  rw [tl_append, tl_repS, sp1]
  simp only [List.mem_append, not_or]
  refine ⟨fun hm => ?_, ?_⟩
  · obtain ⟨l, h1, h2⟩ := List.mem_flatten.mp hm
    rw [(List.mem_replicate.mp h1).2] at h2
    exact absurd (List.mem_singleton.mp h2) (by decide)
  · cases o with
    | none => show 10 ∉ tl ("" : Str); decide +kernel
    | some l =>
      show 10 ∉ tl l.text
      unfold Ln.text
      rw [tl_jn]
      refine joinL_free 32 10 (by decide) _ fun p hp => ?_
      obtain ⟨z, hz, rfl⟩ := List.mem_map.mp hp
      exact Ln.nonl (h l rfl) z hz
/-! ### lines one after another -/
def Runs : RSt → List (Nat × Option Ln) → RSt → Prop
  | st, [], st' => st' = st
  | st, x :: xs, st'' => ∃ st', LineStep st x.2 st' ∧ Runs st' xs st''
theorem RSt.sz.mono {n m : Nat} {st : RSt} (h : st.sz n) (k : n ≤ m) : st.sz m := ⟨Nat.le_trans h.t k, Nat.le_trans h.i k, Nat.le_trans h.p k, Nat.le_trans h.s k, fun p hp => ⟨Nat.le_trans (h.ps p hp).f k, Nat.le_trans (h.ps p hp).o k⟩⟩
theorem OPart.sz.put {n : Nat} {p : OPart} (h : p.sz n) (c : Cmd) : (p.put c).sz (n + 1) := by
  unfold OPart.put
  have h1 := h.f
  have h2 := h.o
  split
  · exact ⟨by show p.first.length ≤ _; omega, by show (p.others ++ [c]).length ≤ _; rw [List.length_append, List.length_singleton]; omega⟩
  · exact ⟨by show (p.first ++ [c]).length ≤ _; rw [List.length_append, List.length_singleton]; omega, by show p.others.length ≤ _; omega⟩
theorem sz_stack {n : Nat} {st : RSt} {ss : List OPart} (h : st.sz n) (hl : ss.length ≤ n + 1) (hp : ∀ p ∈ ss, p.sz (n + 1)) : ({ st with stack := ss } : RSt).sz (n + 1) :=
  ⟨Nat.le_succ_of_le h.t, Nat.le_succ_of_le h.i, Nat.le_succ_of_le h.p, hl, hp⟩
theorem OPart.sz.up {n : Nat} {p : OPart} (h : p.sz n) : p.sz (n + 1) := ⟨Nat.le_succ_of_le h.f, Nat.le_succ_of_le h.o⟩
theorem sz_push {n : Nat} {st : RSt} (h : st.sz n) (hd : Hd) : ({ st with stack := st.stack ++ [⟨hd, [], [], false⟩] } : RSt).sz (n + 1) := by
  refine sz_stack h (by rw [List.length_append, List.length_singleton]; exact Nat.succ_le_succ h.s) fun p hp => ?_
  rcases List.mem_append.mp hp with hp | hp
  · exact (h.ps p hp).up
  · rw [List.mem_singleton.mp hp]; exact ⟨Nat.zero_le _, Nat.zero_le _⟩
theorem sz_top {n : Nat} {st : RSt} {ss : List OPart} {p p' : OPart} (h : st.sz n) (e : st.stack = ss ++ [p]) (hp' : p.sz n → p'.sz (n + 1)) : ({ st with stack := ss ++ [p'] } : RSt).sz (n + 1) := by
  have hs := h.s
  have hps := h.ps
  rw [e] at hs hps
  refine sz_stack h (by rw [List.length_append, List.length_singleton] at hs ⊢; omega) fun q hq => ?_
  rcases List.mem_append.mp hq with hq | hq
  · exact (hps q (List.mem_append_left _ hq)).up
  · rw [List.mem_singleton.mp hq]; exact hp' (hps p (by simp))
theorem LineStep.sz {n : Nat} {st st' : RSt} {o : Option Ln} (h : st.sz n) (hs : LineStep st o st') : st'.sz (n + 1) := by
  cases o with
  | none => rw [show st' = st from hs]; exact h.mono (Nat.le_succ _)
  | some l =>
    obtain ⟨_, hs⟩ := hs
    cases l with
    | tape m p =>
      obtain ⟨_, _, _, e⟩ := hs
      rw [e]
      exact ⟨by show (st.tapes ++ [_]).length ≤ _; rw [List.length_append, List.length_singleton]; exact Nat.succ_le_succ h.t, Nat.le_succ_of_le h.i, Nat.le_succ_of_le h.p, Nat.le_succ_of_le h.s, fun p hp => (h.ps p hp).up⟩
    | idx m p =>
      obtain ⟨_, _, e⟩ := hs
      rw [e]
      exact ⟨Nat.le_succ_of_le h.t, by show (st.idx ++ [_]).length ≤ _; rw [List.length_append, List.length_singleton]; exact Nat.succ_le_succ h.i, Nat.le_succ_of_le h.p, Nat.le_succ_of_le h.s, fun p hp => (h.ps p hp).up⟩
    | proc m =>
      obtain ⟨_, e⟩ := hs
      rw [show st' = _ from e]
      exact sz_push h _
    | si s =>
      obtain ⟨_, ss, p, e, e'⟩ := hs
      rw [e']
      exact sz_top h e fun hp => hp.put _
    | re p =>
      obtain ⟨_, e⟩ := hs
      rw [show st' = _ from e]
      exact sz_push h _
    | if_ t =>
      obtain ⟨_, e⟩ := hs
      rw [show st' = _ from e]
      exact sz_push h _
    | els =>
      obtain ⟨ss, p, e, _, _, e'⟩ := hs
      rw [e']
      exact sz_top h e fun hp => ⟨Nat.le_succ_of_le hp.f, Nat.le_succ_of_le hp.o⟩
    | fin =>
      obtain ⟨_, hs⟩ := hs
      rcases hs with ⟨ss, q, p, c, e, _, e'⟩ | ⟨p, m, e, _, e'⟩
      · rw [e']
        have hs := h.s
        have hps := h.ps
        rw [e] at hs hps
        refine sz_stack h (by simp only [List.length_append, List.length_singleton] at hs ⊢; omega) fun x hx => ?_
        rcases List.mem_append.mp hx with hx | hx
        · exact (hps x (by simp [hx])).up
        · rw [List.mem_singleton.mp hx]; exact (hps q (by simp)).put c
      · rw [e']
        exact ⟨Nat.le_succ_of_le h.t, Nat.le_succ_of_le h.i, by show (st.procs ++ [_]).length ≤ _; rw [List.length_append, List.length_singleton]; exact Nat.succ_le_succ h.p, Nat.zero_le _, fun p hp => by cases hp⟩
theorem Runs.fit : ∀ {ls : List (Nat × Option Ln)} {st st' : RSt}, Runs st ls st' → ∀ x ∈ ls, ∀ l, x.2 = some l → l.fit
  | y :: ls, st, st'', h, x, hx, l, e => by
    obtain ⟨st', h1, h2⟩ := h
    rcases List.mem_cons.mp hx with e' | hx
    · rw [← e', e] at h1
      exact h1.1
    · exact Runs.fit h2 x hx l e
def textL (ls : List (Nat × Option Ln)) : Str := Str.join "\n" (ls.map fun x => lineS x.1 x.2)
section
variable {P : Program} {w : World} {K : PySem.W.Frag} {mg : Str → Option Value} {base : Heap}
def sp_read : Sp := fun vs H Q _ => ∃ (ls : List (Nat × Option Ln)) (s : Scr), vs = [.str (textL ls)] ∧ ls ≠ [] ∧ ls.length ≤ 40000 ∧ (textL ls).length ≤ 16000000 ∧ (∀ x ∈ ls, x.1 ≤ 1000) ∧ Runs ⟨[], [], [], []⟩ ls ⟨s.tapes, s.idx, s.procs, []⟩ ∧
  ∀ v H', Same H H' → Rp H' s.enc v → Q v H'
abbrev nn_read : List Str := ["text", "reader", "lines", "at", "line"]
theorem sc_read : FnScope nn_read ["text"] d_read.scope := ⟨rfl, rfl, rfl, by decide +kernel, rfl, by decide +kernel, by decide +kernel⟩
theorem okd_read (T : Top w K mg) : OKD P w K mg base 13 d_read ["text"] sp_read := by
  refine Has.okD (d := d_read) (T.has 52 50 rfl rfl rfl rfl rfl) sc_read (by rintro _ _ _ _ ⟨_, _, rfl, _⟩; rfl) (fun f cdv A outer s H vs Q E hRm h => ?_)
  obtain ⟨ls, scr, rfl, hne, hlen, htl, hk, hrun, q⟩ := h
  refine ⟨_, (pss_cons (ps_if (pt_not (pt_val (pe_callB isSame (by rfl) (T.free 91) (by decide +kernel) (pa_cons (pv 0) (pa_cons (pe_bltn (v := .ty "str") rfl (T.free 101) (by decide +kernel) rfl) pa_nil))))) (pss_one ps_never) pss_nil)
    (pss_cons (ps_set (i := 1) sc_read.nd rfl (.inl rfl) (pe_mk0 (ok_ScriptReader__init T) (T.mkr 117) (T.glo 41) (hRm.mono (by decide)) (by rfl)))
    (pss_cons (ps_set (i := 2) sc_read.nd rfl (.inl rfl) (pe_split (pv 0) pe_str))
    (pss_cons (ps_for PassesOwn.never rfl (pi_enumS (k := 1) (by rfl) (T.free 96) (pa_cons (pv 2) pa_nil) (by decide) (by decide)) (pg_tup rfl (pgs_cons (pg_name (i := 3) sc_read.nd rfl (.inl rfl) (.inr rfl)) (pgs_cons (pg_name (i := 4) sc_read.nd rfl (.inl rfl) (.inr rfl)) pgs_nil))) (pss_one (ps_if (pt_not (pt_val (pe_mc (ok_ScriptReader_take_line T) (T.cls 116) (T.meth 122) (hRm.mono (by decide)) (pv 1) (pa_cons (pv 4) pa_nil)))) (pss_one ps_never) pss_nil)))
    (pss_cons (ps_if (pt_val (pe_mc0 (ok_ScriptReader_is_open T) (T.cls 116) (T.meth 123) (hRm.mono (by decide)) (pv 1))) (pss_one ps_never) pss_nil)
    (pss_one (ps_ret (pe_mc0 (ok_ScriptReader_script_read T) (T.cls 116) (T.meth 124) (hRm.mono (by decide)) (pv 1))))))))), ?_⟩
  have big : 16000002 ≤ sizeLine := by decide
  refine ⟨_, rfl, _, _, rfl, .str _, true, rfl, iteF ?_⟩
  intro x dx hx hdx ne
  refine ⟨x, dx, rfl, upd_same, fun a1 a2 a3 a4 H1 x1 f1 f2 f3 f4 hR => ⟨rfl, ?_⟩⟩
  have fr : ∀ b, (upd (upd H dx (.own x)) x (.ins (He.ga K "ScriptReader") dx [])) b = none → H b = none := fun b hb => by
    cases q : H b with
    | none => rfl
    | some oo =>
      rw [upd_ne (ne_of_none q hx), upd_ne (ne_of_none q hdx), q] at hb
      cases hb
  have s1 : Same H H1 := fun b oo hb => by
    have hbx : b ≠ x := ne_of_none hb hx
    exact x1 b oo (by rw [upd_ne hbx, upd_ne (ne_of_none hb hdx)]; exact hb) (by simp; exact hbx)
  have hown : ∀ b ∈ ownA x a1 a2 a3 a4 [], H b = none := fun b hb => by
    simp [ownA, triA] at hb
    rcases hb with e | e | e | e | e
    · rw [e]; exact hx
    · rw [e]; exact fr _ f1
    · rw [e]; exact fr _ f2
    · rw [e]; exact fr _ f3
    · rw [e]; exact fr _ f4
  have hz : (textL ls).length + 2 ≤ sizeLine := by omega
  have hsp : Txt.split (textL ls) "\n" = ls.map fun x => lineS x.1 x.2 := by
    refine split_joinS (y := "\n") (s := 10) (S := []) (by decide +kernel) (by decide +kernel) (by simpa using hne) fun p hp => ?_
    obtain ⟨y, hy, rfl⟩ := List.mem_map.mp hp
    exact line_nonl _ _ (Runs.fit hrun y hy)
  refine ⟨_, rfl, ⟨_, rfl⟩, _, _, rfl, rfl, by decide +kernel, hz, ?_⟩
  rw [hsp]
  intro L hL
  have s2 : Same H1 (upd H1 L (.lst ((ls.map fun x => lineS x.1 x.2).map V.str))) := same_upd hL
  have hL2 : (upd H1 L (.lst ((ls.map fun x => lineS x.1 x.2).map V.str))) L = some (.lst ((ls.map fun x => lineS x.1 x.2).map V.str)) := upd_same
  have hLown : L ∉ ownA x a1 a2 a3 a4 [] := hR.fresh hL
  generalize upd H1 L (.lst ((ls.map fun x => lineS x.1 x.2).map V.str)) = H2 at s2 hL2 ⊢
  refine ⟨_, rfl, L, _, rfl, .of hL2, ?_⟩
  refine for_it walk_enumL (fun i σ H' => Same H H' ∧ H' L = some (.lst ((ls.map fun x => lineS x.1 x.2).map V.str)) ∧ ∃ (ts : List Tri) (st : RSt) (o3 o4 : Option V), σ = [some (.str (textL ls)), some (.ref x), some (.ref L), o3, o4] ∧
    RA K H' x a1 a2 a3 a4 ts st ∧ (∀ b ∈ ownA x a1 a2 a3 a4 ts, H b = none) ∧ L ∉ ownA x a1 a2 a3 a4 ts ∧ Runs st (ls.drop i) ⟨scr.tapes, scr.idx, scr.procs, []⟩ ∧ st.sz i) ?_ (fun i σ H' _ hp => .of hp.2.1) (fun i y σ H3 H4 hi hp hy => ?_) (fun σ H3 hp => ?_)
  · exact ⟨s1.trans s2, hL2, [], _, _, _, rfl, hR.same s2, hown, hLown, hrun, ⟨Nat.le_refl _, Nat.le_refl _, Nat.le_refl _, Nat.le_refl _, fun p hp => by cases hp⟩⟩
  · obtain ⟨s3, hL3, ts, st, o3, o4, rfl, hR3, ho3, hLo3, hrun3, hsz3⟩ := hp
    obtain ⟨t, y1, y2, rfl, ht, rfl, h1, h2⟩ := hy
    have h1 : V.int (1 + (i : Nat)) = y1 := Option.some.inj h1
    subst h1
    have hi : i < ls.length := by simpa using hi
    have h2 : ((ls.map fun x => lineS x.1 x.2).map V.str)[i]? = some y2 := h2
    rw [List.getElem?_map, List.getElem?_map, List.getElem?_eq_getElem hi] at h2
    cases h2
    rw [List.drop_eq_getElem_cons hi] at hrun3
    obtain ⟨st', hst', hrun'⟩ := hrun3
    have s4 : Same H3 (upd H3 t (.tup [.int (1 + (i : Nat)), .str (lineS ls[i].1 ls[i].2)])) := same_upd ht
    refine ⟨t, _, rfl, .of upd_same, rfl, _, _, rfl, _, _, rfl, rfl, ?_⟩
    have hL4 := s4 _ _ hL3
    have hR4 := hR3.same s4
    generalize upd H3 t (.tup [.int (1 + (i : Nat)), .str (lineS ls[i].1 ls[i].2)]) = H4 at s4 hL4 hR4 ⊢
    obtain ⟨dx4, ho4⟩ := hR4.ob
    refine ⟨_, rfl, x, dx4, _, rfl, ho4, rfl, _, rfl, x, a1, a2, a3, a4, ts, st, st', ls[i].1, ls[i].2, rfl, hR4, hsz3.mono (by omega), hk _ (List.getElem_mem hi), hst', fun ts' H5 x5 k5 n5 hR5 => ⟨true, rfl, iteF ?_⟩⟩
    have s5 : Same H H5 := fun b o hb => x5 _ _ ((s3.trans s4) _ _ hb) fun hm => by
      rw [ho3 b hm] at hb
      cases hb
    have hL5 := x5 _ _ hL4 hLo3
    have new : ∀ b ∈ triA ts', b ∈ triA ts ∨ H b = none := fun b hb => (n5 b hb).imp id fun h => SameX.free (S := []) (same_x (s3.trans s4) _) h (by simp)
    refine ⟨s5, hL5, ts', st', _, _, rfl, hR5, fun b hb => ?_, fun hm => ?_, hrun', LineStep.sz hsz3 hst'⟩
    · simp only [ownA, List.mem_cons] at hb
      have base : b ∈ x :: a1 :: a2 :: a3 :: a4 :: triA ts → H b = none := ho3 b
      rcases hb with e | e | e | e | e | hb
      · exact base (by simp [e])
      · exact base (by simp [e])
      · exact base (by simp [e])
      · exact base (by simp [e])
      · exact base (by simp [e])
      · rcases new b hb with h | h
        · exact base (by simp [h])
        · exact h
    · simp only [ownA, List.mem_cons] at hm
      have base : L ∉ x :: a1 :: a2 :: a3 :: a4 :: triA ts := hLo3
      simp only [List.mem_cons, not_or] at base
      obtain ⟨b0, b1, b2, b3, b4, b5⟩ := base
      rcases hm with e | e | e | e | e | hm
      · exact b0 e
      · exact b1 e
      · exact b2 e
      · exact b3 e
      · exact b4 e
      · rcases n5 L hm with h | h
        · exact b5 h
        · rw [hL4] at h; cases h
  · obtain ⟨s3, hL3, ts, st, o3, o4, rfl, hR3, ho3, hLo3, hrun3, hsz3⟩ := hp
    have ed : ls.drop ((ls.map fun x => lineS x.1 x.2).map V.str).length = [] := by
      rw [List.length_map, List.length_map, List.drop_length]
    rw [ed] at hrun3
    have est : (⟨scr.tapes, scr.idx, scr.procs, []⟩ : RSt) = st := hrun3
    subst est
    obtain ⟨dx4, ho4⟩ := hR3.ob
    refine ⟨_, rfl, x, dx4, _, rfl, ho4, rfl, x, a1, a2, a3, a4, ts, _, rfl, hR3, _, rfl, iteDf (by simp) ?_⟩
    exact ⟨_, rfl, x, dx4, _, rfl, ho4, rfl, x, a1, a2, a3, a4, ts, _, rfl, hR3, fun v H4 s4 hv => q v H4 (s3.trans s4) hv⟩
theorem ok_read (T : Top w K mg) : OK P w K mg base 13 "read" ["text"] sp_read := (okd_read T).ok (fun _ _ _ _ _ _ us hl => match us, hl with | [_], _ => rfl)
theorem okk_read (T : Top w K mg) : ∃ fd, FnOk P w K mg base CX0 13 (He.ga K d_read.name) fd ["text"] sp_read ∧ mg d_read.name = some (.ref (He.ga K d_read.name)) ∧ PySem.W.keepIn K (.ref (He.ga K d_read.name)) = true ∧ KBinds K fd ["text"] ["text"] (fun us ws => us ++ ws) (fun vs zs => vs ++ zs) :=
  (okd_read T).named (fun _ _ _ _ _ _ _ => rfl) (fun _ _ _ _ _ _ _ => rfl)
end
end NP
/-! NPLoose -/
namespace NP
open PySem PySem.Spec PyProof.Rows L2 TL
/-! ## the plain law: loose lines are read as the program they were made of -/
mutual
def LooseC : Cmd → List Ln → Prop
  | .si s, ls => ls = [.si s]
  | .re p cs, ls => ∃ l, LooseCs cs l ∧ ls = .re p :: (l ++ [.fin])
  | .if_ t cs os, ls => ∃ l1, LooseCs cs l1 ∧ ((os = [] ∧ ls = .if_ t :: (l1 ++ [.fin])) ∨ ∃ l2, LooseCs os l2 ∧ ls = .if_ t :: (l1 ++ .els :: (l2 ++ [.fin])))
def LooseCs : List Cmd → List Ln → Prop
  | [], ls => ls = []
  | c :: cs, ls => ∃ a b, LooseC c a ∧ LooseCs cs b ∧ ls = a ++ b
end
def RunsL : RSt → List Ln → RSt → Prop
  | st, [], st' => st' = st
  | st, x :: xs, st'' => ∃ st', (x.fit ∧ LnStep st x st') ∧ RunsL st' xs st''
theorem RunsL.app : ∀ {a b : List Ln} {s1 s2 s3 : RSt}, RunsL s1 a s2 → RunsL s2 b s3 → RunsL s1 (a ++ b) s3
  | [], _, _, _, _, h, k => by
    have h : _ = _ := h
    subst h; exact k
  | _ :: _, _, _, _, _, ⟨st, h1, h2⟩, k => ⟨st, h1, RunsL.app h2 k⟩
theorem RunsL.one {s1 s2 : RSt} {x : Ln} (h : x.fit) (k : LnStep s1 x s2) : RunsL s1 [x] s2 := ⟨s2, ⟨h, k⟩, rfl⟩
/-- blank lines and blanks ahead change nothing -/
theorem RunsL.loose : ∀ {xs : List (Nat × Option Ln)} {s1 s2 : RSt}, RunsL s1 (xs.filterMap (·.2)) s2 → Runs s1 xs s2
  | [], _, _, h => h
  | (k, none) :: xs, s1, s2, h => ⟨s1, rfl, RunsL.loose (xs := xs) h⟩
  | (k, some x) :: xs, s1, s2, h => by
    have h : RunsL s1 (x :: xs.filterMap (·.2)) s2 := h
    obtain ⟨st, h1, h2⟩ := h
    exact ⟨st, h1, RunsL.loose (xs := xs) h2⟩
def OPart.puts (p : OPart) (cs : List Cmd) : OPart := if p.els = true then { p with others := p.others ++ cs } else { p with first := p.first ++ cs }
theorem OPart.puts_nil (p : OPart) : p.puts [] = p := by
  unfold OPart.puts
  rw [List.append_nil, List.append_nil]
  split <;> rfl
theorem OPart.put_puts (p : OPart) (c : Cmd) (cs : List Cmd) : (p.put c).puts cs = p.puts (c :: cs) := by
  unfold OPart.put OPart.puts
  by_cases h : p.els = true
  · simp [h]
  · simp [h]
theorem st_eta (st : RSt) : ({ st with stack := st.stack } : RSt) = st := by cases st; rfl
theorem end_step {st : RSt} {ss : List OPart} {q p : OPart} {c : Cmd} (e : st.stack = ss ++ [q] ++ [p]) (h : p.hd.done p.first p.others = Cmd.enc c) : RunsL st [.fin] { st with stack := ss ++ [q.put c] } :=
  RunsL.one trivial ⟨by rw [e]; simp, .inl ⟨ss, q, p, c, e, h, rfl⟩⟩
mutual
theorem loose_c : ∀ {c : Cmd} {ls : List Ln}, LooseC c ls → c.fit → ∀ {st : RSt} {ss : List OPart} {p : OPart}, st.stack = ss ++ [p] → RunsL st ls { st with stack := ss ++ [p.put c] }
  | .si s, ls, h, hf, st, ss, p, e => by
    have h : ls = _ := h
    subst h
    exact RunsL.one hf ⟨by rw [e]; simp, ss, p, e, rfl⟩
  | .re q cs, ls, h, hf, st, ss, p, e => by
    obtain ⟨l, hl, rfl⟩ := h
    have r := loose_cs hl hf.2 (st := { st with stack := st.stack ++ [⟨.re q, [], [], false⟩] }) (ss := st.stack) (p := ⟨.re q, [], [], false⟩) rfl
    refine ⟨_, ⟨hf.1, by rw [e]; simp, rfl⟩, r.app ?_⟩
    exact end_step (st := { st with stack := st.stack ++ [OPart.puts ⟨.re q, [], [], false⟩ cs] }) (ss := ss) (q := p) (p := OPart.puts ⟨.re q, [], [], false⟩ cs) (c := .re q cs) (by rw [e]) rfl
  | .if_ t cs os, ls, h, hf, st, ss, p, e => by
    obtain ⟨l1, hl1, h⟩ := h
    have r := loose_cs hl1 hf.2.1 (st := { st with stack := st.stack ++ [⟨.if_ t, [], [], false⟩] }) (ss := st.stack) (p := ⟨.if_ t, [], [], false⟩) rfl
    rcases h with ⟨e0, rfl⟩ | ⟨l2, hl2, rfl⟩
    · subst e0
      refine ⟨_, ⟨hf.1, by rw [e]; simp, rfl⟩, r.app ?_⟩
      exact end_step (st := { st with stack := st.stack ++ [OPart.puts ⟨.if_ t, [], [], false⟩ cs] }) (ss := ss) (q := p) (p := OPart.puts ⟨.if_ t, [], [], false⟩ cs) (c := .if_ t cs []) (by rw [e]) rfl
    · have r2 := loose_cs hl2 hf.2.2 (st := { st with stack := st.stack ++ [⟨.if_ t, cs, [], true⟩] }) (ss := st.stack) (p := ⟨.if_ t, cs, [], true⟩) rfl
      refine ⟨_, ⟨hf.1, by rw [e]; simp, rfl⟩, r.app ⟨_, ⟨trivial, st.stack, _, rfl, rfl, rfl, rfl⟩, r2.app ?_⟩⟩
      exact end_step (st := { st with stack := st.stack ++ [OPart.puts ⟨.if_ t, cs, [], true⟩ os] }) (ss := ss) (q := p) (p := OPart.puts ⟨.if_ t, cs, [], true⟩ os) (c := .if_ t cs os) (by rw [e]) rfl
theorem loose_cs : ∀ {cs : List Cmd} {ls : List Ln}, LooseCs cs ls → fits cs → ∀ {st : RSt} {ss : List OPart} {p : OPart}, st.stack = ss ++ [p] → RunsL st ls { st with stack := ss ++ [p.puts cs] }
  | [], ls, h, hf, st, ss, p, e => by
    have h : ls = [] := h
    subst h
    show _ = _
    rw [OPart.puts_nil, ← e]
  | c :: cs, ls, h, hf, st, ss, p, e => by
    obtain ⟨a, b, ha, hb, rfl⟩ := h
    have r1 := loose_c ha hf.1 e
    have r2 := loose_cs hb hf.2 (st := { st with stack := ss ++ [p.put c] }) (ss := ss) (p := p.put c) rfl
    rw [OPart.put_puts] at r2
    exact r1.app r2
end
mutual
theorem loose_len : ∀ {c : Cmd} {ls : List Ln}, LooseC c ls → ls.length ≤ 3 * c.cnt
  | .si s, ls, h => by
    have h : ls = _ := h
    subst h
    show 1 ≤ 3 * 1
    decide
  | .re q cs, ls, h => by
    obtain ⟨l, hl, rfl⟩ := h
    have := loose_lens hl
    show (l ++ [Ln.fin]).length + 1 ≤ 3 * (1 + cnts cs)
    rw [List.length_append, List.length_singleton]
    omega
  | .if_ t cs os, ls, h => by
    obtain ⟨l1, hl1, h⟩ := h
    have h1 := loose_lens hl1
    have hc : (Cmd.if_ t cs os).cnt = 1 + cnts cs + cnts os := rfl
    rcases h with ⟨e0, rfl⟩ | ⟨l2, hl2, rfl⟩
    · rw [hc, List.length_cons, List.length_append, List.length_singleton]
      omega
    · have h2 := loose_lens hl2
      rw [hc, List.length_cons, List.length_append, List.length_cons, List.length_append, List.length_singleton]
      omega
theorem loose_lens : ∀ {cs : List Cmd} {ls : List Ln}, LooseCs cs ls → ls.length ≤ 3 * cnts cs
  | [], ls, h => by
    have h : ls = [] := h
    subst h
    exact Nat.zero_le _
  | c :: cs, ls, h => by
    obtain ⟨a, b, ha, hb, rfl⟩ := h
    have h1 := loose_len ha
    have h2 := loose_lens hb
    have : cnts (c :: cs) = c.cnt + cnts cs := rfl
    rw [List.length_append]
    omega
end
theorem LooseCs.app : ∀ {cs os : List Cmd} {l1 l2 : List Ln}, LooseCs cs l1 → LooseCs os l2 → LooseCs (cs ++ os) (l1 ++ l2)
  | [], _, _, _, h, k => by
    have h : _ = [] := h
    subst h; exact k
  | c :: cs, os, _, l2, ⟨a, b, ha, hb, e⟩, k => by
    subst e
    exact ⟨a, b ++ l2, ha, LooseCs.app hb k, by rw [List.append_assoc]⟩
theorem LooseCs.one {c : Cmd} {l : List Ln} (h : LooseC c l) : LooseCs [c] l := ⟨l, [], h, rfl, by rw [List.append_nil]⟩
def LoosePs : List (Str × List Cmd) → List Ln → Prop
  | [], ls => ls = []
  | r :: rs, ls => ∃ a b, LooseCs r.2 a ∧ LoosePs rs b ∧ ls = (.proc r.1 :: (a ++ [.fin])) ++ b
theorem LoosePs.app : ∀ {cs os : List (Str × List Cmd)} {l1 l2 : List Ln}, LoosePs cs l1 → LoosePs os l2 → LoosePs (cs ++ os) (l1 ++ l2)
  | [], _, _, _, h, k => by
    have h : _ = [] := h
    subst h; exact k
  | c :: cs, os, _, l2, ⟨a, b, ha, hb, e⟩, k => by
    subst e
    exact ⟨a, b ++ l2, ha, LoosePs.app hb k, by rw [List.append_assoc]⟩
theorem LoosePs.one {r : Str × List Cmd} {l : List Ln} (h : LooseCs r.2 l) : LoosePs [r] (.proc r.1 :: (l ++ [.fin])) := ⟨l, [], h, rfl, by rw [List.append_nil]⟩
theorem loose_plen : ∀ {rs : List (Str × List Cmd)} {ls : List Ln}, LoosePs rs ls → ls.length ≤ 3 * pcnt rs + 2 * rs.length
  | [], ls, h => by
    have h : ls = [] := h
    subst h; exact Nat.zero_le _
  | (n, cs) :: rs, ls, h => by
    obtain ⟨a, b, ha, hb, rfl⟩ := h
    have h1 := loose_lens ha
    have h2 := loose_plen hb
    have : pcnt ((n, cs) :: rs) = cnts cs + pcnt rs := rfl
    have h1 : a.length ≤ 3 * cnts cs := h1
    rw [List.length_append, List.length_cons, List.length_append, List.length_singleton, List.length_cons]
    omega
theorem loose_ps : ∀ {rs : List (Str × List Cmd)} {ls : List Ln}, LoosePs rs ls → (∀ r ∈ rs, Nm r.1 ∧ fits r.2) → ∀ {st : RSt}, st.stack = [] → RunsL st ls { st with procs := st.procs ++ rs }
  | [], ls, h, hf, st, e => by
    have h : ls = [] := h
    subst h
    show _ = _
    rw [List.append_nil]
  | (n, cs) :: rs, ls, h, hf, st, e => by
    obtain ⟨a, b, ha, hb, rfl⟩ := h
    have hn := hf _ List.mem_cons_self
    have r1 := loose_cs ha hn.2 (st := { st with stack := st.stack ++ [⟨.pr n, [], [], false⟩] }) (ss := []) (p := ⟨.pr n, [], [], false⟩) (by rw [e])
    have r2 := loose_ps hb (fun r hr => hf r (List.mem_cons_of_mem _ hr)) (st := { st with stack := [], procs := st.procs ++ [(n, cs)] }) rfl
    have e2 : ({ ({ st with stack := [], procs := st.procs ++ [(n, cs)] } : RSt) with procs := ({ st with stack := [], procs := st.procs ++ [(n, cs)] } : RSt).procs ++ rs } : RSt) = { st with procs := st.procs ++ (n, cs) :: rs } := by
      cases st with
      | mk a b c d =>
        cases e
        simp
    rw [e2] at r2
    refine RunsL.app (s2 := { st with stack := [], procs := st.procs ++ [(n, cs)] }) ⟨_, ⟨hn.1, e, rfl⟩, r1.app ?_⟩ r2
    exact RunsL.one trivial ⟨by simp, .inr ⟨⟨.pr n, cs, [], false⟩, n, rfl, rfl, rfl⟩⟩
def LooseScr (s : Scr) (ls : List Ln) : Prop := ∃ b, LoosePs s.procs b ∧ ls = s.tapes.map (fun h => Ln.tape h.1 h.2) ++ (s.idx.map (fun h => Ln.idx h.1 h.2) ++ b)
theorem loose_tapes : ∀ {hs : List (Str × Poly)}, (∀ h ∈ hs, Nm h.1 ∧ PolyOk h.2) → ∀ {st : RSt}, st.stack = [] → st.procs = [] → st.idx = [] → RunsL st (hs.map fun h => Ln.tape h.1 h.2) { st with tapes := st.tapes ++ hs }
  | [], _, st, _, _, _ => by
    show _ = _
    rw [List.append_nil]
  | h :: hs, hh, st, e1, e2, e3 => by
    have r := loose_tapes (fun x hx => hh x (List.mem_cons_of_mem _ hx)) (st := { st with tapes := st.tapes ++ [h] }) e1 e2 e3
    refine ⟨_, ⟨hh h List.mem_cons_self, e1, e2, e3, rfl⟩, ?_⟩
    have : ({ st with tapes := st.tapes ++ [h] ++ hs } : RSt) = { st with tapes := st.tapes ++ h :: hs } := by simp
    rw [← this]
    exact r
theorem loose_idx : ∀ {hs : List (Str × Poly)}, (∀ h ∈ hs, Nm h.1 ∧ PolyOk h.2) → ∀ {st : RSt}, st.stack = [] → st.procs = [] → RunsL st (hs.map fun h => Ln.idx h.1 h.2) { st with idx := st.idx ++ hs }
  | [], _, st, _, _ => by
    show _ = _
    rw [List.append_nil]
  | h :: hs, hh, st, e1, e2 => by
    have r := loose_idx (fun x hx => hh x (List.mem_cons_of_mem _ hx)) (st := { st with idx := st.idx ++ [h] }) e1 e2
    refine ⟨_, ⟨hh h List.mem_cons_self, e1, e2, rfl⟩, ?_⟩
    have : ({ st with idx := st.idx ++ [h] ++ hs } : RSt) = { st with idx := st.idx ++ h :: hs } := by simp
    rw [← this]
    exact r
theorem loose_scr {s : Scr} {ls : List Ln} (h : LooseScr s ls) (ht : ∀ h ∈ s.tapes, Nm h.1 ∧ PolyOk h.2) (hi : ∀ h ∈ s.idx, Nm h.1 ∧ PolyOk h.2) (hp : ∀ r ∈ s.procs, Nm r.1 ∧ fits r.2) : RunsL ⟨[], [], [], []⟩ ls ⟨s.tapes, s.idx, s.procs, []⟩ := by
  obtain ⟨b, hb, rfl⟩ := h
  have r1 := loose_tapes ht (st := ⟨[], [], [], []⟩) rfl rfl rfl
  have r2 := loose_idx hi (st := ⟨s.tapes, [], [], []⟩) rfl rfl
  have r3 := loose_ps hb hp (st := ⟨s.tapes, s.idx, [], []⟩) rfl
  exact r1.app (r2.app r3)
theorem RunsL.fit : ∀ {xs : List Ln} {s1 s2 : RSt}, RunsL s1 xs s2 → ∀ x ∈ xs, x.fit
  | [], _, _, _, x, hx => by cases hx
  | y :: xs, _, _, ⟨st, h1, h2⟩, x, hx => by
    rcases List.mem_cons.mp hx with e | e
    · rw [e]; exact h1.1
    · exact RunsL.fit h2 x e
/-- a text's lines: loose, blank ones among them -/
structure LooseT (s : Scr) (ls : List (Nat × Option Ln)) : Prop where
  ne : ls ≠ []
  len : ls.length ≤ 1000
  ahead : ∀ x ∈ ls, x.1 ≤ 30
  scr : LooseScr s (ls.filterMap (·.2))
theorem lineS_len {k : Nat} {o : Option Ln} (h : ∀ l, o = some l → l.fit) (hk : k ≤ 30) : (lineS k o).length ≤ 400 := by
  have h1 : (repS " " k).length = k := by
    rw [len_tl, tl_repS]
    simp [show (tl (" " : Str)).length = 1 by decide +kernel]
  unfold lineS
  rw [s_len, h1]
  cases o with
  | none =>
    have : ("" : Str).length = 0 := by decide +kernel
    show k + ("" : Str).length ≤ 400
    omega
  | some l =>
    have := Ln.text_len (h l rfl)
    show k + l.text.length ≤ 400
    omega
section
variable {s : Scr} (hs : s.fit)
include hs
theorem loose_run {ls : List Ln} (h : LooseScr s ls) : RunsL ⟨[], [], [], []⟩ ls ⟨s.tapes, s.idx, s.procs, []⟩ := loose_scr h hs.t hs.i fun r hr => ⟨(hs.p r hr).1, (hs.p r hr).2.1⟩
theorem LooseT.runs {ls : List (Nat × Option Ln)} (h : LooseT s ls) : Runs ⟨[], [], [], []⟩ ls ⟨s.tapes, s.idx, s.procs, []⟩ := (loose_run hs h.scr).loose
theorem LooseT.text_len {ls : List (Nat × Option Ln)} (h : LooseT s ls) : (textL ls).length ≤ 16000000 := by
  have hf := (loose_run hs h.scr).fit
  have h1 := join_len "\n" 400 (ls.map fun x => lineS x.1 x.2) fun p hp => by
    obtain ⟨x, hx, rfl⟩ := List.mem_map.mp hp
    refine lineS_len (fun l e => hf l (List.mem_filterMap.mpr ⟨x, hx, e⟩)) (h.ahead x hx)
  have h2 := h.len
  have h3 : ("\n" : Str).length = 1 := by decide +kernel
  rw [List.length_map, h3] at h1
  unfold textL
  omega
end
end NP
/-! NPLLn -/
namespace NP
open PySem PySem.Spec PyProof.Rows L2 TL
def lnT (l : Ln) : V := .str l.text
theorem lnT_els : lnT .els = .str "else" := by unfold lnT; rw [els_text]
theorem lnT_fin : lnT .fin = .str "end" := by unfold lnT; rw [fin_text]
theorem lnT_fin1 : [Ln.fin].map lnT = [.str "end"] := by rw [List.map_singleton, lnT_fin]
theorem deck_new {H : Hp} {d l F : Addr} (h : Deck H d l) (hF : H F = none) : F ≠ d ∧ F ≠ l := by
  obtain ⟨_, _, a⟩ := h.ex
  obtain ⟨_, b, _⟩ := h.ls
  exact ⟨fun e => by rw [← e, hF] at a; (try cases a), fun e => by rw [← e, hF] at b; cases b⟩
theorem putL {H H3 : Hp} {d l F : Addr} {X Y : List Ln} (hD : Deck H d l) (hF : H F = none) (x3 : SameX [d, l] H H3) (k3 : TK H H3) (dD : Deck H3 d l) (h3 : H3 F = some (.lst (X.map lnT))) :
    ∃ H4, upd H3 F (.lst (X.map lnT ++ Y.map lnT)) = H4 ∧ SameX [d, l] H H4 ∧ TK H H4 ∧ Deck H4 d l ∧ H4 F = some (.lst ((X ++ Y).map lnT)) := by
  have ⟨n1, n2⟩ := deck_new hD hF
  refine ⟨_, rfl, ?_, k3.trans (tk_upd fun q z => by rw [h3] at z; cases z), dD.keep (upd_ne (Ne.symm n1)) (upd_ne (Ne.symm n2)), by rw [List.map_append]; exact upd_same⟩
  intro b o hb hn
  rw [upd_ne (fun z => by rw [z, hF] at hb; cases hb)]
  exact x3 b o hb hn
section
variable {P : Program} {w : World} {K : PySem.W.Frag} {mg : Str → Option Value} {base : Heap}
def sp_law_loose_lines (n : Nat) : Sp := fun vs H Q _ => ∃ (d l : Addr) (cs : List Cmd) (a : Addr) (xs : List V), vs = [.ref d, .ref a] ∧ Deck H d l ∧ H a = some (.tup xs) ∧ RpL H (encs cs) xs ∧ fits cs ∧ cnts cs ≤ n ∧ n ≤ 100 ∧
  ∀ F ls H', LooseCs cs ls → SameX [d, l] H H' → TK H H' → Deck H' d l → H F = none → H' F = some (.lst (ls.map lnT)) → Q (.ref F) H'
abbrev nn_law_loose_lines : List Str := ["_law_deck_here", "_law_commands", "_law_found", "_law_command"]
theorem sc_law_loose_lines : FnScope nn_law_loose_lines ["_law_deck_here", "_law_commands"] d_law_loose_lines.scope := ⟨rfl, rfl, rfl, by decide +kernel, rfl, by decide +kernel, by decide +kernel⟩
theorem ok_law_loose_lines_step (T : Top w K mg) (n : Nat) (sp' : Sp) (hsp : ∀ m, n = m + 1 → sp' = sp_law_loose_lines m) (O : OK P w K mg base (n + 5) "_law_loose_lines" ["_law_deck_here", "_law_commands"] sp') : OK P w K mg base (n + 6) "_law_loose_lines" ["_law_deck_here", "_law_commands"] (sp_law_loose_lines n) := by
  have big : 10000 ≤ sizeLine := by decide
  refine Has.ok (d := d_law_loose_lines) (T.has 79 81 rfl rfl rfl rfl rfl) sc_law_loose_lines (fun _ _ _ _ _ _ us hl => match us, hl with | [_, _], _ => rfl) (by rintro _ _ _ _ ⟨_, _, _, _, _, rfl, _⟩; rfl) (fun f cdv A outer s H vs Q E hRm h => ?_)
  obtain ⟨d, l, cs, a, xs, rfl, hD, ha, hr, hf, hc, hn, q⟩ := h
  refine ⟨_, (pss_cons (ps_set (i := 2) sc_law_loose_lines.nd rfl (.inl rfl) (pe_lst pa_nil))
    (pss_cons (ps_for PassesOwn.never rfl (pi_tup (pv 1)) (pg_name (i := 3) sc_law_loose_lines.nd rfl (.inl rfl)) (pss_cons (ps_expr (pe_bm PySem.F.plainAttrs_list PySem.F.slot_list_append PySem.F.type_list_append mt_append (pv 2) (pa_cons (pe_c (ok_law_command_text T) (hRm.mono (by omega)) (by rfl) (pa_cons (pv 3) pa_nil)) pa_nil)))
    (pss_one (ps_if (pt_cmpR op_in_seq (pe_ix ixT (pv 3) pe_int (fun _ _ => rfl)) (pe_tup (pa_cons pe_str (pa_cons pe_str pa_nil))) (by rfl)) (pss_cons (ps_expr (pe_bm PySem.F.plainAttrs_list PySem.F.slot_list_extend PySem.F.type_list_extend mt_extend (pv 2) (pa_cons (pe_c O (hRm.mono (by omega)) (by rfl) (pa_cons (pv 0) (pa_cons (pe_ix ixT (pv 3) pe_int (fun _ _ => rfl)) pa_nil))) pa_nil)))
    (pss_cons (ps_if (PW.pt (pw_and (pt_cmpR op_eq (pe_ix ixT (pv 3) pe_int (fun _ _ => rfl)) pe_str (nomark _)) (pw_and1 (PW.pt (pw_or (pt_cmpR (op_neNilT hRm.units0) (pe_ix ixT (pv 3) pe_int (fun _ _ => rfl)) (pe_tup pa_nil) (nomark _)) (pw_or1 (pt_cmpR op_eq (pe_c (ok_law_draw T) (hRm.mono (by omega)) (by rfl) (pa_cons (pv 0) (pa_cons pe_int pa_nil))) pe_int (nomark _)))))))) (pss_one (ps_expr (pe_bm PySem.F.plainAttrs_list PySem.F.slot_list_extend PySem.F.type_list_extend mt_extend (pv 2) (pa_cons (pe_op op_cat (pe_lst (pa_cons pe_str pa_nil)) (pe_c O (hRm.mono (by omega)) (by rfl) (pa_cons (pv 0) (pa_cons (pe_ix ixT (pv 3) pe_int (fun _ _ => rfl)) pa_nil)))) pa_nil)))) pss_nil)
    (pss_one (ps_expr (pe_bm PySem.F.plainAttrs_list PySem.F.slot_list_append PySem.F.type_list_append mt_append (pv 2) (pa_cons pe_str pa_nil)))))) pss_nil))))
    (pss_one (ps_ret (pv 2))))), ?_⟩
  refine ⟨by show 0 ≤ sizeLine; decide, fun F hF => ?_⟩
  have s0 : Same H (upd H F (.lst [])) := same_upd hF
  have hF0 : (upd H F (.lst [])) F = some (.lst (([] : List Ln).map lnT)) := upd_same
  have d0 := hD.same s0
  have nF : F ∉ [d, l] := by
    have ⟨n1, n2⟩ := deck_new hD hF
    simp [n1, n2]
  generalize upd H F (.lst []) = H0 at s0 hF0 d0 ⊢
  have hr0 := hr
  rw [encs_map] at hr
  have hr2 := RpL.all2 Cmd.enc hr
  have e1 := hr2.len
  refine ⟨_, rfl, a, rfl, ⟨_, .of (s0 _ _ ha)⟩, ?_⟩
  refine for_it walk_tup (fun i σ H' => ∃ (o3 : Option V) (X : List Ln), σ = [some (.ref d), some (.ref a), some (.ref F), o3] ∧ SameX [d, l] H H' ∧ TK H H' ∧ Deck H' d l ∧ H' F = some (.lst (X.map lnT)) ∧ LooseCs (cs.take i) X) ⟨none, [], rfl, same_x s0 _, same_tk s0, d0, hF0, rfl⟩ (fun i σ H' _ hp => .of (by obtain ⟨_, _, _, _, k, _⟩ := hp; exact k _ _ ha)) (fun i x σ H1 H2 hi hp hy => ?_) (fun σ H1 hp => ?_)
  · obtain ⟨o3, X, rfl, x1, k1, d1, hF1, hX⟩ := hp
    obtain ⟨rfl, hx⟩ := hy
    obtain ⟨c, hc1, hv0⟩ := hr2.at_ hx
    have hcm := List.mem_of_getElem? hc1
    have hfc := fits_all.mp hf c hcm
    have hcc := cnt_le_mem hcm
    have hcp := cnt_pos c
    have hci := c.inner_cnt
    have hXl : X.length ≤ 300 := by
      have h1 := loose_lens hX
      have h2 : cnts (cs.take i) + cnts (cs.drop i) = cnts cs := by rw [← cnts_app, List.take_append_drop]
      omega
    have hnext : cs.take (i + 1) = cs.take i ++ [c] := by rw [List.take_add_one, hc1]; rfl
    obtain ⟨m, rfl⟩ : ∃ m, n = m + 1 := ⟨n - 1, by omega⟩
    refine ⟨_, rfl, .inl ⟨rfl, _, .of hF1⟩, _, rfl, c, x, rfl, hv0.tk k1, hfc, fun H3 s3 => ?_⟩
    have hF3 := s3 _ _ hF1
    refine ⟨F, _, _, rfl, rfl, hF3, by simp only [List.length_map]; omega, ?_⟩
    obtain ⟨H4, e4, x4, k4, d4, hF4⟩ := putL hD hF (x1.trans (same_x s3 _)) (k1.trans (same_tk s3)) (d1.same s3) (Y := [c.ln]) hF3
    have e4 : upd H3 F (.lst (X.map lnT ++ [.str c.ln.text])) = H4 := e4
    rw [e4]
    obtain ⟨b, us, rfl, hb, hls0⟩ := Rp.cmd hv0
    refine ⟨_, rfl, b, _, 0, _, rfl, rfl, k4 _ _ hb, rfl, by show 2 ≤ sizeLine; decide, fun t ht => ⟨t, ir.map V.str, rfl, .inr (.of upd_same), rfl, flat_strs _, _, rfl, ?_⟩⟩
    rw [if_neg (by decide), inV_strs]
    have st : Same H4 (upd H4 t (.tup [V.str "if", .str "repeat"])) := same_upd ht
    generalize upd H4 t (.tup [V.str "if", .str "repeat"]) = H5 at st ⊢
    have x5 := x4.trans (same_x st _)
    have k5 := k4.trans (same_tk st)
    have d5 := d4.same st
    have hF5 := st _ _ hF4
    cases c with
    | si s =>
      refine iteDf (show s.word ∉ ir from fun hm => by
        have := s.notif
        rcases List.mem_cons.mp hm with e | hm
        · exact this.1 e
        · exact this.2 (List.mem_singleton.mp hm)) ⟨_, _, rfl, x5, k5, d5, hF5, ?_⟩
      rw [hnext]
      exact hX.app (LooseCs.one rfl)
    | re p cs2 =>
      obtain ⟨b', u, b2, xs2, eb, hbr, hu, hb2, hr2'⟩ := Rp.rep hv0
      cases eb
      have hcn2 : cnts cs2 ≤ m := by have : (Cmd.re p cs2).inner = cs2 := rfl; rw [this] at hci; omega
      refine iteDt (show ("repeat" : Str) ∈ ir by decide +kernel) ?_
      refine ⟨_, rfl, .inl ⟨rfl, _, .of hF5⟩, _, rfl, _, rfl, b, _, 2, _, rfl, rfl, k5 _ _ hbr, rfl, ?_⟩
      rw [hsp m rfl]
      refine ⟨d, l, cs2, b2, xs2, rfl, d5, k5 _ _ hb2, hr2'.tk k5, hfc.2, hcn2, by omega, fun G ls H6 hls sx6 tk6 dD6 hG hG' => ?_⟩
      have hl6 := loose_lens hls
      have hF6 := sx6 _ _ hF5 nF
      refine ⟨F, G, _, _, rfl, rfl, hF6, hG', by simp only [List.length_map, List.length_append, List.length_cons, List.length_nil]; omega, ?_⟩
      obtain ⟨H7, e7, x7, k7, d7, hF7⟩ := putL hD hF (x5.trans sx6) (k5.trans tk6) dD6 (Y := ls) hF6
      rw [e7]
      refine ⟨_, rfl, b, _, 0, _, rfl, rfl, k7 _ _ hbr, rfl, rfl, _, rfl, iteDf (vs_ne (show ("repeat" : Str) ≠ "if" by decide +kernel)) ?_⟩
      refine ⟨_, rfl, .inl ⟨rfl, _, .of hF7⟩, F, _, _, rfl, rfl, hF7, by simp only [List.length_map, List.length_append, List.length_cons, List.length_nil]; omega, ?_⟩
      obtain ⟨H8, e8, x8, k8, d8, hF8⟩ := putL hD hF x7 k7 d7 (Y := [Ln.fin]) hF7
      rw [lnT_fin1] at e8
      rw [e8]
      refine ⟨_, _, rfl, x8, k8, d8, hF8, ?_⟩
      have := hX.app (LooseCs.one (c := Cmd.re p cs2) (l := Ln.re p :: (ls ++ [Ln.fin])) ⟨ls, hls, rfl⟩)
      rw [hnext]
      simpa [Cmd.ln] using this
    | if_ tt cs2 os =>
      obtain ⟨b', u, b2, b3, xs2, ys2, eb, hbr, hu, hb2, hr2', hb3, hr3'⟩ := Rp.ifc hv0
      cases eb
      have hin : cnts (Cmd.if_ tt cs2 os).inner = cnts cs2 + cnts os := cnts_app
      have hcn2 : cnts cs2 ≤ m := by omega
      have hcn3 : cnts os ≤ m := by omega
      refine iteDt (show ("if" : Str) ∈ ir by decide +kernel) ?_
      refine ⟨_, rfl, .inl ⟨rfl, _, .of hF5⟩, _, rfl, _, rfl, b, _, 2, _, rfl, rfl, k5 _ _ hbr, rfl, ?_⟩
      rw [hsp m rfl]
      refine ⟨d, l, cs2, b2, xs2, rfl, d5, k5 _ _ hb2, hr2'.tk k5, hfc.2.1, hcn2, by omega, fun G ls H6 hls sx6 tk6 dD6 hG hG' => ?_⟩
      have hl6 := loose_lens hls
      have hF6 := sx6 _ _ hF5 nF
      refine ⟨F, G, _, _, rfl, rfl, hF6, hG', by simp only [List.length_map, List.length_append, List.length_cons, List.length_nil]; omega, ?_⟩
      obtain ⟨H7, e7, x7, k7, d7, hF7⟩ := putL hD hF (x5.trans sx6) (k5.trans tk6) dD6 (Y := ls) hF6
      rw [e7]
      have nd9 : ∀ {G0 G1 : Hp} {t : Addr} {xs : List V}, Same G0 G1 → G0 t = none → G1 t = some (.lst xs) → Deck G0 d l → t ∉ [d, l] := fun _ h0 _ hd => by
        have ⟨n1, n2⟩ := deck_new hd h0
        simp [n1, n2]
      refine ⟨_, rfl, b, _, 0, _, rfl, rfl, k7 _ _ hbr, rfl, rfl, _, rfl, iteDt rfl ?_⟩
      refine ⟨_, rfl, b, _, 3, _, rfl, rfl, k7 _ _ hbr, rfl, by show 0 ≤ sizeLine; decide, fun t2 ht2 => ?_⟩
      have st2 : Same H7 (upd H7 t2 (.tup [])) := same_upd ht2
      refine ⟨b3, t2, ys2, rfl, rfl, .of (st2 _ _ (k7 _ _ hb3)), .of upd_same, _, rfl, ?_⟩
      generalize upd H7 t2 (.tup []) = H8 at st2 ⊢
      have x8 := x7.trans (same_x st2 _)
      have k8 := k7.trans (same_tk st2)
      have d8 := d7.same st2
      have hF8 := st2 _ _ hF7
      cases hys : ys2.isEmpty with
      | false =>
        refine iteT ?_
        have xz := x8
        have kz := k8
        have dz := d8
        have hFz := hF8
        generalize H8 = Hz at xz kz dz hFz ⊢
        refine ⟨_, rfl, .inl ⟨rfl, _, .of hFz⟩, by show 1 ≤ sizeLine; decide, fun l1 hl1 => ?_⟩
        have s9 : Same Hz (upd Hz l1 (.lst [.str "else"])) := same_upd hl1
        have hl9 : (upd Hz l1 (.lst [.str "else"])) l1 = some (.lst [.str "else"]) := upd_same
        generalize upd Hz l1 (.lst [.str "else"]) = H9 at s9 hl9 ⊢
        have kz9 := kz.trans (same_tk s9)
        have d9 := dz.same s9
        refine ⟨_, rfl, _, rfl, b, _, 3, _, rfl, rfl, kz9 _ _ hbr, rfl, ?_⟩
        refine ⟨d, l, os, b3, ys2, rfl, d9, kz9 _ _ hb3, hr3'.tk kz9, hfc.2.2, by omega, by omega, fun G2 ls2 Ha hls2 sxa tka dDa hG2 hG2' => ?_⟩
        have hla := loose_lens hls2
        refine ⟨l1, G2, _, _, rfl, rfl, sxa _ _ hl9 (nd9 s9 hl1 hl9 dz), hG2', by simp only [List.length_map, List.length_cons, List.length_nil]; omega, fun l3 hl3 => ?_⟩
        have s11 : Same Ha (upd Ha l3 (.lst ([.str "else"] ++ ls2.map lnT))) := same_upd hl3
        have hl11 : (upd Ha l3 (.lst ([.str "else"] ++ ls2.map lnT))) l3 = some (.lst ((Ln.els :: ls2).map lnT)) := by rw [List.map_cons, lnT_els]; exact upd_same
        generalize upd Ha l3 (.lst ([.str "else"] ++ ls2.map lnT)) = Hb at s11 hl11 ⊢
        have xb := ((xz.trans (same_x s9 _)).trans sxa).trans (same_x s11 _)
        have kb := (kz9.trans tka).trans (same_tk s11)
        have db := dDa.same s11
        have hFb := s11 _ _ (sxa _ _ (s9 _ _ hFz) nF)
        refine ⟨F, l3, _, _, rfl, rfl, hFb, hl11, by simp only [List.length_map, List.length_append, List.length_cons, List.length_nil]; omega, ?_⟩
        obtain ⟨Hc, ec, xc, kc, dc, hFc⟩ := putL hD hF xb kb db (Y := Ln.els :: ls2) hFb
        rw [ec]
        refine ⟨_, rfl, .inl ⟨rfl, _, .of hFc⟩, F, _, _, rfl, rfl, hFc, by simp only [List.length_map, List.length_append, List.length_cons, List.length_nil]; omega, ?_⟩
        obtain ⟨Hd, ed, xd, kd, dd, hFd⟩ := putL hD hF xc kc dc (Y := [Ln.fin]) hFc
        rw [lnT_fin1] at ed
        rw [ed]
        refine ⟨_, _, rfl, xd, kd, dd, hFd, ?_⟩
        have := hX.app (LooseCs.one (c := Cmd.if_ tt cs2 os) (l := Ln.if_ tt :: (ls ++ Ln.els :: (ls2 ++ [Ln.fin]))) ⟨ls, hls, .inr ⟨ls2, hls2, rfl⟩⟩)
        rw [hnext]
        simpa [Cmd.ln] using this
      | true =>
        have eos : os = [] := by
          have := RpL.len hr3'
          rw [List.isEmpty_iff.mp hys, encs_map, List.length_map] at this
          exact List.length_eq_zero_iff.mp this.symm
        refine iteF ?_
        refine ⟨_, rfl, d, l, 2, rfl, d8, by decide, by decide, fun r Hz hr sxz tkz dz => ?_⟩
        have xz := x8.trans sxz
        have kz := k8.trans tkz
        have hFz := sxz _ _ hF8 nF
        refine ⟨rfl, _, rfl, ?_⟩
        by_cases hr0 : (V.int (r : Int)) = V.int 0
        · refine iteDt hr0 ?_
          refine ⟨_, rfl, .inl ⟨rfl, _, .of hFz⟩, by show 1 ≤ sizeLine; decide, fun l1 hl1 => ?_⟩
          have s9 : Same Hz (upd Hz l1 (.lst [.str "else"])) := same_upd hl1
          have hl9 : (upd Hz l1 (.lst [.str "else"])) l1 = some (.lst [.str "else"]) := upd_same
          generalize upd Hz l1 (.lst [.str "else"]) = H9 at s9 hl9 ⊢
          have kz9 := kz.trans (same_tk s9)
          have d9 := dz.same s9
          refine ⟨_, rfl, _, rfl, b, _, 3, _, rfl, rfl, kz9 _ _ hbr, rfl, ?_⟩
          refine ⟨d, l, os, b3, ys2, rfl, d9, kz9 _ _ hb3, hr3'.tk kz9, hfc.2.2, by omega, by omega, fun G2 ls2 Ha hls2 sxa tka dDa hG2 hG2' => ?_⟩
          have hla := loose_lens hls2
          refine ⟨l1, G2, _, _, rfl, rfl, sxa _ _ hl9 (nd9 s9 hl1 hl9 dz), hG2', by simp only [List.length_map, List.length_cons, List.length_nil]; omega, fun l3 hl3 => ?_⟩
          have s11 : Same Ha (upd Ha l3 (.lst ([.str "else"] ++ ls2.map lnT))) := same_upd hl3
          have hl11 : (upd Ha l3 (.lst ([.str "else"] ++ ls2.map lnT))) l3 = some (.lst ((Ln.els :: ls2).map lnT)) := by rw [List.map_cons, lnT_els]; exact upd_same
          generalize upd Ha l3 (.lst ([.str "else"] ++ ls2.map lnT)) = Hb at s11 hl11 ⊢
          have xb := ((xz.trans (same_x s9 _)).trans sxa).trans (same_x s11 _)
          have kb := (kz9.trans tka).trans (same_tk s11)
          have db := dDa.same s11
          have hFb := s11 _ _ (sxa _ _ (s9 _ _ hFz) nF)
          refine ⟨F, l3, _, _, rfl, rfl, hFb, hl11, by simp only [List.length_map, List.length_append, List.length_cons, List.length_nil]; omega, ?_⟩
          obtain ⟨Hc, ec, xc, kc, dc, hFc⟩ := putL hD hF xb kb db (Y := Ln.els :: ls2) hFb
          rw [ec]
          refine ⟨_, rfl, .inl ⟨rfl, _, .of hFc⟩, F, _, _, rfl, rfl, hFc, by simp only [List.length_map, List.length_append, List.length_cons, List.length_nil]; omega, ?_⟩
          obtain ⟨Hd, ed, xd, kd, dd, hFd⟩ := putL hD hF xc kc dc (Y := [Ln.fin]) hFc
          rw [lnT_fin1] at ed
          rw [ed]
          refine ⟨_, _, rfl, xd, kd, dd, hFd, ?_⟩
          have := hX.app (LooseCs.one (c := Cmd.if_ tt cs2 os) (l := Ln.if_ tt :: (ls ++ Ln.els :: (ls2 ++ [Ln.fin]))) ⟨ls, hls, .inr ⟨ls2, hls2, rfl⟩⟩)
          rw [hnext]
          simpa [Cmd.ln] using this
        · refine iteDf hr0 ?_
          refine ⟨_, rfl, .inl ⟨rfl, _, .of hFz⟩, F, _, _, rfl, rfl, hFz, by simp only [List.length_map, List.length_append, List.length_cons, List.length_nil]; omega, ?_⟩
          obtain ⟨Hd, ed, xd, kd, dd, hFd⟩ := putL hD hF xz kz dz (Y := [Ln.fin]) hFz
          rw [lnT_fin1] at ed
          rw [ed]
          refine ⟨_, _, rfl, xd, kd, dd, hFd, ?_⟩
          have := hX.app (LooseCs.one (c := Cmd.if_ tt cs2 os) (l := Ln.if_ tt :: (ls ++ [Ln.fin])) ⟨ls, hls, .inl ⟨eos, rfl⟩⟩)
          rw [hnext]
          simpa [Cmd.ln] using this
  · obtain ⟨o3, X, rfl, x1, k1, d1, hF1, hX⟩ := hp
    rw [e1, List.take_length] at hX
    exact ⟨_, rfl, q F X H1 hX x1 k1 d1 hF hF1⟩
theorem ok_law_loose_lines (T : Top w K mg) : ∀ n : Nat, OK P w K mg base (n + 6) "_law_loose_lines" ["_law_deck_here", "_law_commands"] (sp_law_loose_lines n)
  | 0 => ok_law_loose_lines_step T 0 _ (fun m h => by cases h) (ok_none (d := d_law_loose_lines) (T.has 79 81 rfl rfl rfl rfl rfl) 4 sc_law_loose_lines (fun _ _ _ _ _ _ us hl => match us, hl with | [_, _], _ => rfl))
  | n + 1 => ok_law_loose_lines_step T (n + 1) _ (fun m h => by cases h; rfl) (ok_law_loose_lines T n)
end
end NP
/-! NPLTx -/
namespace NP
open PySem PySem.Spec PyProof.Rows L2 TL
def lnO (x : Nat × Option Ln) : V := .str (lineS x.1 x.2)
theorem lineS_none (k : Nat) : lineS k none = repS " " k := by
  show repS " " k ++ ("" : Str) = _
  rw [emp_nil, s_nil']
theorem deck_nin {H : Hp} {d l F : Addr} (h : Deck H d l) (hF : H F = none) : F ∉ [d, l] := by
  have ⟨n1, n2⟩ := deck_new h hF
  simp [n1, n2]
theorem pcnt_take : ∀ (l : List (Str × List Cmd)) (j : Nat), pcnt (l.take j) ≤ pcnt l
  | [], j => by simp [pcnt]
  | a :: l, 0 => Nat.zero_le _
  | a :: l, j + 1 => by
    have := pcnt_take l j
    show cnts a.2 + pcnt (l.take j) ≤ cnts a.2 + pcnt l
    omega
theorem putO {H H3 : Hp} {d l F : Addr} {X Y : List (Nat × Option Ln)} (hD : Deck H d l) (hF : H F = none) (x3 : SameX [d, l] H H3) (k3 : TK H H3) (dD : Deck H3 d l) (h3 : H3 F = some (.lst (X.map lnO))) :
    ∃ H4, upd H3 F (.lst (X.map lnO ++ Y.map lnO)) = H4 ∧ SameX [d, l] H H4 ∧ TK H H4 ∧ Deck H4 d l ∧ H4 F = some (.lst ((X ++ Y).map lnO)) := by
  have ⟨n1, n2⟩ := deck_new hD hF
  refine ⟨_, rfl, ?_, k3.trans (tk_upd fun q z => by rw [h3] at z; cases z), dD.keep (upd_ne (Ne.symm n1)) (upd_ne (Ne.symm n2)), by rw [List.map_append]; exact upd_same⟩
  intro b o hb hn
  rw [upd_ne (fun z => by rw [z, hF] at hb; cases hb)]
  exact x3 b o hb hn
section
variable {P : Program} {w : World} {K : PySem.W.Frag} {mg : Str → Option Value} {base : Heap}
def sp_law_loose_text : Sp := fun vs H Q _ => ∃ (d l : Addr) (s : Scr) (v : V), vs = [.ref d, v] ∧ Deck H d l ∧ Rp H s.enc v ∧ s.fit ∧ s.tapes.length ≤ 3 ∧ s.idx.length ≤ 3 ∧ s.procs.length ≤ 3 ∧ pcnt s.procs ≤ 16 ∧
  ∀ ls H', LooseT s ls → SameX [d, l] H H' → TK H H' → Deck H' d l → Q (.str (textL ls)) H'
abbrev nn_law_loose_text : List Str := ["_law_deck_here", "_law_program", "_law_lines", "_law_name", "_law_poly", "_law_commands", "_law_found", "_law_line", "_law_turn"]
theorem sc_law_loose_text : FnScope nn_law_loose_text ["_law_deck_here", "_law_program"] d_law_loose_text.scope := ⟨rfl, rfl, rfl, by decide +kernel, rfl, by decide +kernel, by decide +kernel⟩
theorem ok_law_loose_text (T : Top w K mg) : OK P w K mg base 23 "_law_loose_text" ["_law_deck_here", "_law_program"] sp_law_loose_text := by
  refine Has.ok (d := d_law_loose_text) (T.has 80 82 rfl rfl rfl rfl rfl) sc_law_loose_text (fun _ _ _ _ _ _ us hl => match us, hl with | [_, _], _ => rfl) (by rintro _ _ _ _ ⟨_, _, _, _, rfl, _⟩; rfl) (fun f cdv A outer s H vs Q E hRm h => ?_)
  obtain ⟨dk0, dl0, t, v, rfl, hDk, hv, hf, ht3, hi3, hp3, hp16, q⟩ := h
  obtain ⟨a, b, c, d, xs, ys, zs, rfl, ha, hb, hrb, hc, hrc, hd, hrd⟩ := Rp.scr hv
  refine ⟨_, (pss_cons (ps_setLc (i := 2) (own := [("_law_name", 3), ("_law_poly", 4)]) (g := gTup K 2 (gCons (gName 3) (gCons (gName 4) gNil))) rfl sc_law_loose_text.nd rfl rfl (sw_true rfl rfl rfl (by decide +kernel)) (pi_tup (pe_ix ixT (pv 1) pe_int (fun _ _ => rfl))) (blkOk_by (N := nn_law_loose_text) (sc := d_law_loose_text.scope) (by decide +kernel)) (fun _ _ _ _ _ => (pg_tup rfl (pgs_cons (pg_name (i := 3) sc_law_loose_text.nd rfl (.inl rfl) (.inr rfl)) (pgs_cons (pg_name (i := 4) sc_law_loose_text.nd rfl (.inl rfl) (.inr rfl)) pgs_nil)))) (fun _ _ _ _ _ => pts_nil) (fun _ _ _ _ _ => (pe_op op_as (pe_op op_as (pe_op op_as pe_str (pv 3)) pe_str) (pe_c (ok_law_poly_text T) (hRm.mono (by decide)) (by rfl) (pa_cons (pv 4) pa_nil)))))
    (pss_cons (ps_expr (pe_bm PySem.F.plainAttrs_list PySem.F.slot_list_extend PySem.F.type_list_extend mt_extend (pv 2) (pa_cons (pe_lc (own := [("_law_name", 3), ("_law_poly", 4)]) (g := gTup K 2 (gCons (gName 3) (gCons (gName 4) gNil))) rfl sc_law_loose_text.nd (pi_tup (pe_ix ixT (pv 1) pe_int (fun _ _ => rfl))) (blkOk_by (N := nn_law_loose_text) (sc := d_law_loose_text.scope) (by decide +kernel)) (fun _ _ _ _ _ => (pg_tup rfl (pgs_cons (pg_name (i := 3) sc_law_loose_text.nd rfl (.inl rfl) (.inr rfl)) (pgs_cons (pg_name (i := 4) sc_law_loose_text.nd rfl (.inl rfl) (.inr rfl)) pgs_nil)))) (fun _ _ _ _ _ => pts_nil) (fun _ _ _ _ _ => (pe_op op_as (pe_op op_as (pe_op op_as pe_str (pv 3)) pe_str) (pe_c (ok_law_poly_text T) (hRm.mono (by decide)) (by rfl) (pa_cons (pv 4) pa_nil))))) pa_nil)))
    (pss_cons (ps_for PassesOwn.never rfl (pi_tup (pe_ix ixT (pv 1) pe_int (fun _ _ => rfl))) (pg_tup rfl (pgs_cons (pg_name (i := 3) sc_law_loose_text.nd rfl (.inl rfl) (.inr rfl)) (pgs_cons (pg_name (i := 5) sc_law_loose_text.nd rfl (.inl rfl) (.inr rfl)) pgs_nil))) (pss_one (ps_expr (pe_bm PySem.F.plainAttrs_list PySem.F.slot_list_extend PySem.F.type_list_extend mt_extend (pv 2) (pa_cons (pe_op op_cat (pe_op op_cat (pe_lst (pa_cons (pe_op op_as pe_str (pv 3)) pa_nil)) (pe_c (ok_law_loose_lines T 16) (hRm.mono (by decide)) (by rfl) (pa_cons (pv 0) (pa_cons (pv 5) pa_nil)))) (pe_lst (pa_cons pe_str pa_nil))) pa_nil)))))
    (pss_cons (ps_set (i := 6) sc_law_loose_text.nd rfl (.inl rfl) (pe_lst pa_nil))
    (pss_cons (ps_for PassesOwn.never rfl (pi_list (pv 2)) (pg_name (i := 7) sc_law_loose_text.nd rfl (.inl rfl)) (pss_cons (ps_for PassesOwn.never rfl (pi_range1 (by rfl) (T.free 99) (pa_cons (pe_c (ok_law_pick T) (hRm.mono (by decide)) (by rfl) (pa_cons (pv 0) (pa_cons (pe_lst (pa_cons pe_int (pa_cons pe_int (pa_cons pe_int (pa_cons pe_int (pa_cons pe_int pa_nil)))))) pa_nil))) pa_nil)) (pg_name (i := 8) sc_law_loose_text.nd rfl (.inl rfl)) (pss_one (ps_expr (pe_bm PySem.F.plainAttrs_list PySem.F.slot_list_append PySem.F.type_list_append mt_append (pv 6) (pa_cons (pe_op op_mul_str pe_str (pe_c (ok_law_draw T) (hRm.mono (by decide)) (by rfl) (pa_cons (pv 0) (pa_cons pe_int pa_nil)))) pa_nil)))))
    (pss_one (ps_expr (pe_bm PySem.F.plainAttrs_list PySem.F.slot_list_append PySem.F.type_list_append mt_append (pv 6) (pa_cons (pe_op op_as (pe_op op_mul_str pe_str (pe_c (ok_law_pick T) (hRm.mono (by decide)) (by rfl) (pa_cons (pv 0) (pa_cons (pe_lst (pa_cons pe_int (pa_cons pe_int (pa_cons pe_int (pa_cons pe_int (pa_cons pe_int (pa_cons pe_int pa_nil))))))) pa_nil)))) (pv 7)) pa_nil))))))
    (pss_one (ps_ret (pe_join pe_str (pe_op op_cat (pv 6) (pe_op op_rep (pe_lst (pa_cons (pe_op op_mul_str pe_str (pe_c (ok_law_draw T) (hRm.mono (by decide)) (by rfl) (pa_cons (pv 0) (pa_cons pe_int pa_nil)))) pa_nil)) (pe_c (ok_law_draw T) (hRm.mono (by decide)) (by rfl) (pa_cons (pv 0) (pa_cons pe_int pa_nil))))))))))))), ?_⟩
  have e1 := RpL.len hrb
  have e2 := RpL.len hrc
  have e3 := RpL.len hrd
  rw [List.length_map] at e1 e2 e3
  have big : 10000 ≤ sizeLine := by decide
  have l1 : ("tape " : Str).length ≤ 500 := by decide +kernel
  have l2 : (" size " : Str).length ≤ 500 := by decide +kernel
  have l3 : ("index " : Str).length ≤ 500 := by decide +kernel
  have l4 : (" to " : Str).length ≤ 500 := by decide +kernel
  have l5 : ("procedure " : Str).length ≤ 500 := by decide +kernel
  have hsp1 : (" " : Str).length ≤ 1000 := by decide +kernel
  refine ⟨_, rfl, a, _, 0, _, rfl, rfl, ha, rfl, b, rfl, ⟨_, .of hb⟩, fun D hD => ?_⟩
  refine lc_map walk_tup hD (by omega) (fun H' s1 => .of (s1 _ _ hb)) (fun i y _ => ∃ h, t.tapes[i]? = some h ∧ y = lnT (.tape h.1 h.2)) (fun _ _ _ _ h _ => h) (fun i x H1 H2 hi s1 hy C k => ?_) fun ys1 H1 hn s1 hD1 hr1 => ?_
  · obtain ⟨rfl, hx⟩ := hy
    obtain ⟨dd, h1, h2⟩ := RpL.at_ hrb hx
    rw [List.getElem?_map] at h1
    obtain ⟨h, h3, rfl⟩ := Option.map_eq_some_iff.mp h1
    have hm := hf.t h (List.mem_of_getElem? h3)
    obtain ⟨p, u, rfl, hp, hu⟩ := Rp.head2 h2
    have m1 := s26 (nm_len hm.1)
    have m2 := m500 (tpoly_len hm.2)
    refine ⟨p, _, rfl, .of (s1 _ _ hp), rfl, _, _, rfl, _, _, rfl, rfl, rfl, _, rfl, _, _, rfl, rfl, up (sh1 l1), up (sh1 m1), _, _, rfl, rfl, up (shA (sh1 l1) m1), up (sh1 l2), _, rfl, h.2, u, rfl, hu.same s1, hm.2, fun H5 s5 => ⟨_, _, rfl, rfl, up (shA (shA (sh1 l1) m1) l2), up (sh1 m2), k _ _ s5 ⟨h, h3, ?_⟩⟩⟩
    unfold lnT
    rw [tape_text]
    simp only [s_assoc]
    rfl
  have g1 : ys1 = (t.tapes.map fun h => Ln.tape h.1 h.2).map lnT := by
    refine List.ext_getElem? fun i => ?_
    by_cases hi : i < ys1.length
    · obtain ⟨h, hq, e⟩ := hr1 i ys1[i] (List.getElem?_eq_getElem hi)
      rw [List.getElem?_eq_getElem hi, List.getElem?_map, List.getElem?_map, hq, e]
      rfl
    · rw [List.getElem?_eq_none (by omega), List.getElem?_eq_none (by simp; omega)]
  have hc1 := s1 _ _ hc
  have hrc1 := hrc.same s1
  refine ⟨_, rfl, .inl ⟨rfl, _, .of hD1⟩, _, rfl, a, _, 1, _, rfl, rfl, s1 _ _ ha, rfl, c, rfl, ⟨_, .of hc1⟩, fun D2 hD2 => ?_⟩
  refine lc_map walk_tup hD2 (by omega) (fun H' s1 => .of (s1 _ _ hc1)) (fun i y _ => ∃ h, t.idx[i]? = some h ∧ y = lnT (.idx h.1 h.2)) (fun _ _ _ _ h _ => h) (fun i x H3 H4 hi s3 hy C k => ?_) fun ys2 H2 hn2 s2 hD3 hr2 => ?_
  · obtain ⟨rfl, hx⟩ := hy
    obtain ⟨dd, h1, h2⟩ := RpL.at_ hrc1 hx
    rw [List.getElem?_map] at h1
    obtain ⟨h, h3, rfl⟩ := Option.map_eq_some_iff.mp h1
    have hm := hf.i h (List.mem_of_getElem? h3)
    obtain ⟨p, u, rfl, hp, hu⟩ := Rp.head2 h2
    have m1 := s26 (nm_len hm.1)
    have m2 := m500 (tpoly_len hm.2)
    refine ⟨p, _, rfl, .of (s3 _ _ hp), rfl, _, _, rfl, _, _, rfl, rfl, rfl, _, rfl, _, _, rfl, rfl, up (sh1 l3), up (sh1 m1), _, _, rfl, rfl, up (shA (sh1 l3) m1), up (sh1 l4), _, rfl, h.2, u, rfl, hu.same s3, hm.2, fun H5 s5 => ⟨_, _, rfl, rfl, up (shA (shA (sh1 l3) m1) l4), up (sh1 m2), k _ _ s5 ⟨h, h3, ?_⟩⟩⟩
    unfold lnT
    rw [idx_text]
    simp only [s_assoc]
    rfl
  have g2 : ys2 = (t.idx.map fun h => Ln.idx h.1 h.2).map lnT := by
    refine List.ext_getElem? fun i => ?_
    by_cases hi : i < ys2.length
    · obtain ⟨h, hq, e⟩ := hr2 i ys2[i] (List.getElem?_eq_getElem hi)
      rw [List.getElem?_eq_getElem hi, List.getElem?_map, List.getElem?_map, hq, e]
      rfl
    · rw [List.getElem?_eq_none (by omega), List.getElem?_eq_none (by simp; omega)]
  have hD2' := s2 _ _ hD1
  refine ⟨D, D2, ys1, ys2, rfl, rfl, hD2', hD3, by omega, ?_⟩
  have s3 : Same H (upd H2 D (.lst (ys1 ++ ys2))) := Same.up (s1.trans s2) hD
  have hD4 : (upd H2 D (.lst (ys1 ++ ys2))) D = some (.lst (((t.tapes.map fun h => Ln.tape h.1 h.2) ++ (t.idx.map fun h => Ln.idx h.1 h.2)).map lnT)) := by
    rw [g1, g2, ← List.map_append]
    exact upd_same
  generalize upd H2 D (.lst (ys1 ++ ys2)) = H3 at s3 hD4 ⊢
  have hnD := deck_nin hDk hD
  refine ⟨_, rfl, a, _, 2, _, rfl, rfl, s3 _ _ ha, rfl, d, rfl, ⟨_, .of (s3 _ _ hd)⟩, ?_⟩
  refine for_it walk_tup (fun i σ H' => ∃ (o3 o4 o5 o6 o7 o8 : Option V) (bb : List Ln), σ = [some (.ref dk0), some (.ref a), some (.ref D), o3, o4, o5, o6, o7, o8] ∧ SameX [dk0, dl0] H H' ∧ TK H H' ∧ Deck H' dk0 dl0 ∧ LoosePs (t.procs.take i) bb ∧ H' D = some (.lst (((t.tapes.map fun h => Ln.tape h.1 h.2) ++ ((t.idx.map fun h => Ln.idx h.1 h.2) ++ bb)).map lnT))) ?_ (fun i σ H' _ hp => .of (by obtain ⟨_, _, _, _, _, _, _, _, _, k, _⟩ := hp; exact k _ _ hd)) (fun i x σ H4 H5 hi hp hy => ?_) (fun σ H4 hp => ?_)
  · exact ⟨_, _, _, _, _, _, [], rfl, same_x s3 _, same_tk s3, hDk.same s3, rfl, by rw [List.append_nil]; exact hD4⟩
  · obtain ⟨o3, o4, o5, o6, o7, o8, bb, rfl, x4, k4, d4, hbb, hL⟩ := hp
    obtain ⟨rfl, hx⟩ := hy
    obtain ⟨dd, h1, h2⟩ := RpL.at_ hrd hx
    rw [List.getElem?_map] at h1
    obtain ⟨r, h3, rfl⟩ := Option.map_eq_some_iff.mp h1
    have hrm := List.mem_of_getElem? h3
    have hm := hf.p r hrm
    obtain ⟨p, b2, us, rfl, hp2, hb2, hu⟩ := Rp.proc h2
    have m1 := s26 (nm_len hm.1)
    have hcn := pcnt_mem hrm
    have hlen : bb.length ≤ 200 := by
      have h1 := loose_plen hbb
      have h2 := pcnt_take t.procs i
      have h3 : (t.procs.take i).length ≤ 3 := by rw [List.length_take]; omega
      omega
    refine ⟨p, _, rfl, .of (k4 _ _ hp2), rfl, _, _, rfl, _, _, rfl, rfl, ?_⟩
    refine ⟨_, rfl, .inl ⟨rfl, _, .of hL⟩, _, rfl, _, _, rfl, rfl, up (sh1 l5), up (sh1 m1), by show 1 ≤ sizeLine; decide, fun f1 hf1 => ?_⟩
    have s9 : Same H5 (upd H5 f1 (.lst [.str ("procedure " ++ r.1)])) := same_upd hf1
    have hl9 : (upd H5 f1 (.lst [.str ("procedure " ++ r.1)])) f1 = some (.lst ([Ln.proc r.1].map lnT)) := by
      have : V.str (("procedure " : Str) ++ r.1) = lnT (.proc r.1) := by unfold lnT; rw [proc_text]
      rw [List.map_singleton, ← this]
      exact upd_same
    generalize upd H5 f1 (.lst [.str ("procedure " ++ r.1)]) = H6 at s9 hl9 ⊢
    have nf1 := deck_nin d4 hf1
    have k6 := k4.trans (same_tk s9)
    refine ⟨_, rfl, _, rfl, dk0, dl0, r.2, b2, us, rfl, d4.same s9, k6 _ _ hb2, hu.tk k6, hm.2.1, by omega, by decide, fun f2 ls H7 hls sx7 tk7 d7 hf2 hf27 => ?_⟩
    have hll := loose_lens hls
    have hl7 := sx7 _ _ hl9 nf1
    have hL7 := sx7 _ _ (s9 _ _ hL) hnD
    refine ⟨f1, f2, _, _, rfl, rfl, hl7, hf27, by simp only [List.length_map, List.length_cons, List.length_nil]; omega, fun f3 hf3 => ?_⟩
    have s8 : Same H7 (upd H7 f3 (.lst ([Ln.proc r.1].map lnT ++ ls.map lnT))) := same_upd hf3
    have hl8 : (upd H7 f3 (.lst ([Ln.proc r.1].map lnT ++ ls.map lnT))) f3 = some (.lst (([Ln.proc r.1] ++ ls).map lnT)) := by rw [List.map_append]; exact upd_same
    generalize upd H7 f3 (.lst ([Ln.proc r.1].map lnT ++ ls.map lnT)) = H8 at s8 hl8 ⊢
    refine ⟨by show 1 ≤ sizeLine; decide, fun f4 hf4 => ?_⟩
    have s10 : Same H8 (upd H8 f4 (.lst [.str "end"])) := same_upd hf4
    have hl10 : (upd H8 f4 (.lst [.str "end"])) f4 = some (.lst ([Ln.fin].map lnT)) := by rw [lnT_fin1]; exact upd_same
    generalize upd H8 f4 (.lst [.str "end"]) = H9 at s10 hl10 ⊢
    refine ⟨f3, f4, _, _, rfl, rfl, s10 _ _ hl8, hl10, by simp only [List.length_map, List.length_append, List.length_cons, List.length_nil]; omega, fun f5 hf5 => ?_⟩
    have s11 : Same H9 (upd H9 f5 (.lst (([Ln.proc r.1] ++ ls).map lnT ++ [Ln.fin].map lnT))) := same_upd hf5
    have hl11 : (upd H9 f5 (.lst (([Ln.proc r.1] ++ ls).map lnT ++ [Ln.fin].map lnT))) f5 = some (.lst ((Ln.proc r.1 :: (ls ++ [Ln.fin])).map lnT)) := by
      rw [← List.map_append]
      exact upd_same
    generalize upd H9 f5 (.lst (([Ln.proc r.1] ++ ls).map lnT ++ [Ln.fin].map lnT)) = H10 at s11 hl11 ⊢
    have s711 := (s8.trans s10).trans s11
    have x10 := ((x4.trans (same_x s9 _)).trans sx7).trans (same_x s711 _)
    have k10 := (k6.trans tk7).trans (same_tk s711)
    have hL10 := s711 _ _ hL7
    refine ⟨D, f5, _, _, rfl, rfl, hL10, hl11, by simp only [List.length_map, List.length_append, List.length_cons, List.length_nil]; omega, ?_⟩
    obtain ⟨H11, e11, x11, k11, d11, hL11⟩ := putL hDk hD x10 k10 (d7.same s711) (Y := Ln.proc r.1 :: (ls ++ [Ln.fin])) hL10
    rw [e11]
    refine ⟨_, _, _, _, _, _, bb ++ (Ln.proc r.1 :: (ls ++ [Ln.fin])), rfl, x11, k11, d11, ?_, ?_⟩
    · rw [List.take_add_one, h3]
      exact hbb.app (LoosePs.one hls)
    · rw [List.append_assoc, List.append_assoc] at hL11
      exact hL11
  · obtain ⟨o3, o4, o5, o6, o7, o8, bb, rfl, x4, k4, d4, hbb, hL⟩ := hp
    rw [e3, List.take_length] at hbb
    have hscr : LooseScr t ((t.tapes.map fun h => Ln.tape h.1 h.2) ++ ((t.idx.map fun h => Ln.idx h.1 h.2) ++ bb)) := ⟨bb, hbb, rfl⟩
    have hLl : ((t.tapes.map fun h => Ln.tape h.1 h.2) ++ ((t.idx.map fun h => Ln.idx h.1 h.2) ++ bb)).length ≤ 100 := by
      have h1 := loose_plen hbb
      simp only [List.length_append, List.length_map]
      omega
    have hLf := (loose_run hf hscr).fit
    generalize ((t.tapes.map fun h => Ln.tape h.1 h.2) ++ ((t.idx.map fun h => Ln.idx h.1 h.2) ++ bb)) = L at hscr hLl hLf hL
    refine ⟨by show 0 ≤ sizeLine; decide, fun F hF => ?_⟩
    have s5 : Same H4 (upd H4 F (.lst [])) := same_upd hF
    have hF5 : (upd H4 F (.lst [])) F = some (.lst (([] : List (Nat × Option Ln)).map lnO)) := upd_same
    generalize upd H4 F (.lst []) = H5 at s5 hF5 ⊢
    have nFx := deck_nin d4 hF
    have hDF : D ≠ F := fun e => by rw [← e, hL] at hF; cases hF
    have hF0 : H F = none := x4.free hF nFx
    refine ⟨_, rfl, D, rfl, ⟨_, .of (s5 _ _ hL)⟩, ?_⟩
    refine for_it walk_list (fun i σ H' => ∃ (o3 o4 o5 o7 o8 : Option V) (zz : List (Nat × Option Ln)), σ = [some (.ref dk0), some (.ref a), some (.ref D), o3, o4, o5, some (.ref F), o7, o8] ∧ SameX [dk0, dl0] H H' ∧ TK H H' ∧ Deck H' dk0 dl0 ∧ H' D = some (.lst (L.map lnT)) ∧ H' F = some (.lst (zz.map lnO)) ∧ zz.length ≤ 3 * i ∧ (∀ x ∈ zz, x.1 ≤ 30) ∧ zz.filterMap (·.2) = L.take i) ?_ (fun i σ H' _ hp => .of (by obtain ⟨_, _, _, _, _, _, _, _, _, _, k, _⟩ := hp; exact k)) (fun i x σ H6 H7 hi hp hy => ?_) (fun σ H6 hp => ?_)
    · exact ⟨_, _, _, _, _, [], rfl, x4.trans (same_x s5 _), k4.trans (same_tk s5), d4.same s5, s5 _ _ hL, hF5, Nat.zero_le _, (fun _ h => by cases h), rfl⟩
    · obtain ⟨o3, o4, o5, o7, o8, zz, rfl, x6, k6, d6, hD6, hF6, hzl, hza, hzf⟩ := hp
      obtain ⟨rfl, hx⟩ := hy
      rw [List.getElem?_map] at hx
      obtain ⟨ln, hln, rfl⟩ := Option.map_eq_some_iff.mp hx
      rw [List.length_map] at hi
      have hfl := hLf ln (List.mem_of_getElem? hln)
      have htk : L.take (i + 1) = L.take i ++ [ln] := by rw [List.take_add_one, hln]; rfl
      refine ⟨_, rfl, by show 5 ≤ sizeLine; decide, fun A1 hA1 => ?_⟩
      have sA : Same H7 (upd H7 A1 (.lst [V.int 0, V.int 0, V.int 0, V.int 1, V.int 2])) := same_upd hA1
      refine ⟨dk0, dl0, A1, _, rfl, d6.same sA, upd_same, (by have := deck_nin d6 hA1; intro e; exact this (by simp [e])), List.cons_ne_nil _ _, by show 5 ≤ 2000000000000; decide, fun z H8 hz sx8 tk8 d8 => ?_⟩
      obtain ⟨r, rfl, hr⟩ : ∃ r : Nat, z = .int (r : Int) ∧ r ≤ 2 := by
        simp only [List.mem_cons, List.not_mem_nil, or_false] at hz
        rcases hz with e | e | e | e | e
        · exact ⟨0, e, by decide⟩
        · exact ⟨0, e, by decide⟩
        · exact ⟨0, e, by decide⟩
        · exact ⟨1, e, by decide⟩
        · exact ⟨2, e, by decide⟩
      have x8 := (x6.trans (same_x sA _)).trans sx8
      have k8 := (k6.trans (same_tk sA)).trans tk8
      have hD8 := sx8 _ _ (sA _ _ hD6) hnD
      have hF8 := sx8 _ _ (sA _ _ hF6) nFx
      refine ⟨(r : Int), rfl, by omega, by omega, ?_⟩
      rw [Int.toNat_natCast]
      refine for_it (walk_range (lo := 0) (n := r)) (fun j σ H' => ∃ (o8 : Option V) (yy : List (Nat × Option Ln)), σ = [some (.ref dk0), some (.ref a), some (.ref D), o3, o4, o5, some (.ref F), some (lnT ln), o8] ∧ SameX [dk0, dl0] H H' ∧ TK H H' ∧ Deck H' dk0 dl0 ∧ H' D = some (.lst (L.map lnT)) ∧ H' F = some (.lst (yy.map lnO)) ∧ yy.length ≤ 3 * i + j ∧ (∀ x ∈ yy, x.1 ≤ 30) ∧ yy.filterMap (·.2) = L.take i) ⟨_, zz, rfl, x8, k8, d8, hD8, hF8, by omega, hza, hzf⟩ (fun _ _ _ _ _ => trivial) (fun j x σ G1 G2 hj hp hy => ?_) (fun σ G1 hp => ?_)
      · obtain ⟨o8, yy, rfl, x9, k9, d9, hD9, hF9, hyl, hya, hyf⟩ := hp
        obtain ⟨rfl, rfl⟩ := hy
        refine ⟨_, rfl, .inl ⟨rfl, _, .of hF9⟩, _, rfl, dk0, dl0, 4, rfl, d9, by decide, by decide, fun r1 G3 hr1 sx10 tk10 d10 => ?_⟩
        have hF10 := sx10 _ _ hF9 nFx
        refine ⟨_, r1, rfl, rfl, by omega, hsp1, F, _, _, rfl, rfl, hF10, by rw [List.length_map]; omega, ?_⟩
        obtain ⟨G4, e4, x11, k11, d11, hF11⟩ := putO hDk hF0 (x9.trans sx10) (k9.trans tk10) d10 (Y := [(r1, none)]) hF10
        have e4 : upd G3 F (.lst (yy.map lnO ++ [V.str (lineS r1 none)])) = G4 := e4
        rw [lineS_none] at e4
        have hD11 : G4 D = some (.lst (L.map lnT)) := by rw [← e4, upd_ne hDF]; exact sx10 _ _ hD9 hnD
        rw [e4]
        refine ⟨_, yy ++ [(r1, none)], rfl, x11, k11, d11, hD11, hF11, by rw [List.length_append, List.length_singleton]; omega, ?_, ?_⟩
        · intro y hy
          rcases List.mem_append.mp hy with e | e
          · exact hya y e
          · rw [List.mem_singleton] at e; subst e; show r1 ≤ 30; omega
        · rw [List.filterMap_append, hyf]
          exact List.append_nil _
      · obtain ⟨o8, yy, rfl, x9, k9, d9, hD9, hF9, hyl, hya, hyf⟩ := hp
        refine ⟨_, rfl, .inl ⟨rfl, _, .of hF9⟩, _, rfl, by show 6 ≤ sizeLine; decide, fun A2 hA2 => ?_⟩
        have sB : Same G1 (upd G1 A2 (.lst [V.int 0, V.int 2, V.int 1, V.int 5, V.int 0, V.int 30])) := same_upd hA2
        refine ⟨dk0, dl0, A2, _, rfl, d9.same sB, upd_same, (by have := deck_nin d9 hA2; intro e; exact this (by simp [e])), List.cons_ne_nil _ _, by show 6 ≤ 2000000000000; decide, fun z G2 hz sx10 tk10 d10 => ?_⟩
        obtain ⟨kk, rfl, hkk⟩ : ∃ r : Nat, z = .int (r : Int) ∧ r ≤ 30 := by
          simp only [List.mem_cons, List.not_mem_nil, or_false] at hz
          rcases hz with e | e | e | e | e | e
          · exact ⟨0, e, by decide⟩
          · exact ⟨2, e, by decide⟩
          · exact ⟨1, e, by decide⟩
          · exact ⟨5, e, by decide⟩
          · exact ⟨0, e, by decide⟩
          · exact ⟨30, e, by decide⟩
        have hF10 := sx10 _ _ (sB _ _ hF9) nFx
        have hD10 := sx10 _ _ (sB _ _ hD9) hnD
        have tl := Ln.text_len hfl
        refine ⟨_, kk, rfl, rfl, by omega, hsp1, _, rfl, _, _, rfl, rfl, by rw [rep_len]; omega, by omega, F, _, _, rfl, rfl, hF10, by rw [List.length_map]; omega, ?_⟩
        obtain ⟨G4, e4, x11, k11, d11, hF11⟩ := putO hDk hF0 ((x9.trans (same_x sB _)).trans sx10) ((k9.trans (same_tk sB)).trans tk10) d10 (Y := [(kk, some ln)]) hF10
        have e4 : upd G2 F (.lst (yy.map lnO ++ [V.str (repS " " kk ++ ln.text)])) = G4 := e4
        have hD11 : G4 D = some (.lst (L.map lnT)) := by rw [← e4, upd_ne hDF]; exact hD10
        rw [e4]
        refine ⟨_, _, _, _, _, yy ++ [(kk, some ln)], rfl, x11, k11, d11, hD11, hF11, by rw [List.length_append, List.length_singleton]; omega, ?_, ?_⟩
        · intro y hy
          rcases List.mem_append.mp hy with e | e
          · exact hya y e
          · rw [List.mem_singleton] at e; subst e; exact hkk
        · rw [List.filterMap_append, hyf, htk]
          rfl
    · obtain ⟨o3, o4, o5, o7, o8, zz, rfl, x6, k6, d6, hD6, hF6, hzl, hza, hzf⟩ := hp
      rw [List.length_map] at hzf hzl
      rw [List.take_length] at hzf
      refine ⟨⟨_, rfl⟩, _, rfl, _, rfl, dk0, dl0, 3, rfl, d6, by decide, by decide, fun r1 H7 hr1 sx7 tk7 d7 => ?_⟩
      refine ⟨_, r1, rfl, rfl, by omega, hsp1, by show 1 ≤ sizeLine; decide, fun A1 hA1 => ?_⟩
      have sA : Same H7 (upd H7 A1 (.lst [V.str (repS " " r1)])) := same_upd hA1
      have hA : (upd H7 A1 (.lst [V.str (repS " " r1)])) A1 = some (.lst [V.str (repS " " r1)]) := upd_same
      have nA := deck_nin d7 hA1
      generalize upd H7 A1 (.lst [V.str (repS " " r1)]) = H8 at sA hA ⊢
      refine ⟨_, rfl, dk0, dl0, 3, rfl, d7.same sA, by decide, by decide, fun r2 H9 hr2 sx9 tk9 d9 => ?_⟩
      refine ⟨A1, _, _, rfl, rfl, sx9 _ _ hA nA, by omega, by omega, ?_, fun B hB => ?_⟩
      · rw [Int.toNat_natCast]; show 1 * r2 ≤ sizeLine; omega
      rw [Int.toNat_natCast, show (List.replicate r2 [V.str (repS " " r1)]).flatten = (List.replicate r2 ((r1, none) : Nat × Option Ln)).map lnO by
        rw [List.map_replicate, List.flatten_replicate_singleton]
        show _ = List.replicate r2 (V.str (lineS r1 none))
        rw [lineS_none]]
      have sB : Same H9 (upd H9 B (.lst ((List.replicate r2 ((r1, none) : Nat × Option Ln)).map lnO))) := same_upd hB
      have hB9 : (upd H9 B (.lst ((List.replicate r2 ((r1, none) : Nat × Option Ln)).map lnO))) B = some (.lst ((List.replicate r2 ((r1, none) : Nat × Option Ln)).map lnO)) := upd_same
      generalize upd H9 B (.lst ((List.replicate r2 ((r1, none) : Nat × Option Ln)).map lnO)) = H10 at sB hB9 ⊢
      have hF10 := sB _ _ (sx9 _ _ (sA _ _ (sx7 _ _ hF6 nFx)) nFx)
      have x10 := (((x6.trans sx7).trans (same_x sA _)).trans sx9).trans (same_x sB _)
      have k10 := (((k6.trans tk7).trans (same_tk sA)).trans tk9).trans (same_tk sB)
      have d10 := d9.same sB
      refine ⟨F, B, _, _, rfl, rfl, hF10, hB9, by simp only [List.length_map, List.length_replicate]; omega, fun C hC => ?_⟩
      rw [← List.map_append]
      have hlen : (zz ++ List.replicate r2 ((r1, none) : Nat × Option Ln)).length ≤ 400 := by rw [List.length_append, List.length_replicate]; omega
      have hah : ∀ x ∈ zz ++ List.replicate r2 ((r1, none) : Nat × Option Ln), x.1 ≤ 30 := fun x hx => by
        rcases List.mem_append.mp hx with e | e
        · exact hza x e
        · rw [List.eq_of_mem_replicate e]; show r1 ≤ 30; omega
      have hfm : (zz ++ List.replicate r2 ((r1, none) : Nat × Option Ln)).filterMap (·.2) = L := by
        rw [List.filterMap_append, hzf]
        have : (List.replicate r2 ((r1, none) : Nat × Option Ln)).filterMap (·.2) = [] := by
          rw [List.filterMap_eq_nil_iff]
          intro y hy
          rw [List.eq_of_mem_replicate hy]
        rw [this, List.append_nil]
      generalize zz ++ List.replicate r2 ((r1, none) : Nat × Option Ln) = W at hlen hah hfm ⊢
      have sC : Same H10 (upd H10 C (.lst (W.map lnO))) := same_upd hC
      have hC10 : (upd H10 C (.lst (W.map lnO))) C = some (.lst (W.map lnO)) := upd_same
      generalize upd H10 C (.lst (W.map lnO)) = H11 at sC hC10 ⊢
      refine ⟨_, C, W.map fun x => lineS x.1 x.2, rfl, rfl, .inl (.of (by rw [List.map_map]; exact hC10)), ?_, ?_⟩
      · have e : ("\n" : Str).length = 1 := by decide +kernel
        rw [e]
        refine join_fits (m := 400) (n := 400) (fun y hy => ?_) (by rw [List.length_map]; exact hlen) (by decide)
        obtain ⟨x, hx, rfl⟩ := List.mem_map.mp hy
        exact lineS_len (fun l e => hLf l (by rw [← hfm]; exact List.mem_filterMap.mpr ⟨x, hx, e⟩)) (hah x hx)
      · rw [join_eq]
        by_cases hW : W = []
        · subst hW
          have hem : Str.join "\n" (([] : List (Nat × Option Ln)).map fun x => lineS x.1 x.2) = textL [(0, none)] := by decide +kernel
          rw [hem]
          exact q [(0, none)] _ ⟨by simp, by simp, by simp, by rw [← hfm] at hscr; exact hscr⟩ (x10.trans (same_x sC _)) (k10.trans (same_tk sC)) (d10.same sC)
        · exact q W _ ⟨hW, by omega, hah, by rw [hfm]; exact hscr⟩ (x10.trans (same_x sC _)) (k10.trans (same_tk sC)) (d10.same sC)
end
end NP
/-! NPLow -/
namespace NP
open PySem PySem.Spec PyProof.Rows L2 TL
/-! ## plain signs alone -/
def Low (z : Str) : Prop := ∀ c ∈ tl z, c < 256
theorem low_app {a b : Str} (ha : Low a) (hb : Low b) : Low (a ++ b) := fun c hc => by
  rw [tl_append] at hc
  exact (List.mem_append.mp hc).elim (ha c) (hb c)
theorem low_joinL {S : List Nat} (hS : ∀ c ∈ S, c < 256) : ∀ {ps : List (List Nat)}, (∀ p ∈ ps, ∀ c ∈ p, c < 256) → ∀ c ∈ joinL S ps, c < 256
  | [], _ => fun c h => by cases h
  | [a], h => h a (List.mem_singleton.mpr rfl)
  | a :: b :: r, h => fun c hc => by
    have hc : c ∈ a ++ (S ++ joinL S (b :: r)) := hc
    rcases List.mem_append.mp hc with e | e
    · exact h a List.mem_cons_self c e
    · rcases List.mem_append.mp e with e | e
      · exact hS c e
      · exact low_joinL hS (ps := b :: r) (fun p hp => h p (List.mem_cons_of_mem _ hp)) c e
theorem low_join {y : Str} (hy : Low y) {ps : List Str} (h : ∀ p ∈ ps, Low p) : Low (Str.join y ps) := fun c hc => by
  rw [tl_join] at hc
  refine low_joinL hy (fun p hp => ?_) c hc
  obtain ⟨z, hz, rfl⟩ := List.mem_map.mp hp
  exact h z hz
theorem low_rep {z : Str} (h : Low z) (n : Nat) : Low (repS z n) := fun c hc => by
  rw [tl_repS] at hc
  obtain ⟨l, hl, hcl⟩ := List.mem_flatten.mp hc
  rw [List.eq_of_mem_replicate hl] at hcl
  exact h c hcl
instance (z : Str) : Decidable (Low z) := inferInstanceAs (Decidable (∀ c ∈ tl z, c < 256))
theorem low_nm {z : Str} (h : Nm z) : Low z := (by decide +kernel : ∀ z ∈ allNames, Low z) z h
theorem low_part {k z : Str} (h : PartOk k z) : Low z := by
  unfold PartOk at h
  split at h
  · exact (by decide +kernel : ∀ z ∈ letters4, Low z) z h
  · split at h
    · exact fun c hm => Nat.lt_of_le_of_lt (h.2.2.1 c hm).2 (by decide)
    · split at h
      · rcases h with rfl | rfl <;> decide +kernel
      · exact low_nm h
theorem low_parts : ∀ {ks zs : List Str}, Parts ks zs → ∀ z ∈ zs, Low z
  | [], [], _ => fun z hz => by cases hz
  | _ :: _, _ :: _, h => fun z hz => (List.mem_cons.mp hz).elim (fun e => by rw [e]; exact low_part h.1) (low_parts h.2 z)
theorem low_num (n : Nat) : Low (num n) := fun c hc => by
  rw [tl_n] at hc
  have := numL_dig n c hc
  omega
theorem low_pair (q : Nat × Nat) : Low (textPair q) := by
  obtain ⟨e, c⟩ := q
  by_cases h : e = 0
  · subst h
    exact low_num c
  · rw [tp_pos c h]
    refine low_app (low_app (fun x hx => ?_) (by decide +kernel)) (fun x hx => ?_)
    · exact Nat.lt_of_not_le fun hle => tpF_free (.inr (by omega)) hx
    · exact Nat.lt_of_not_le fun hle => tpB_free (.inr ⟨by omega, by omega⟩) hx
theorem low_pw {p : Poly} : ∀ z ∈ polyWords p, Low z := by
  unfold polyWords
  by_cases h0 : p = []
  · rw [if_pos h0]
    intro z hz
    rw [List.mem_singleton.mp hz]
    decide +kernel
  · rw [if_neg h0]
    intro z hz
    rcases inter_mem _ _ _ hz with e | hz
    · rw [e]; decide +kernel
    · obtain ⟨q, _, rfl⟩ := List.mem_map.mp hz
      exact low_pair q
theorem low_cell {a i : Str} (ha : Low a) (hi : Low i) : Low (cellS a i) := low_app ha (low_app (by decide +kernel) (low_app hi (by decide +kernel)))
theorem low_pl {p : Pl} (h : p.fit) : ∀ z ∈ p.words, Low z := by
  have hpu := low_parts h
  have l1 : Low "is" := by decide +kernel
  have l2 : Low "equals" := by decide +kernel
  have l3 : Low "empty" := by decide +kernel
  have l4 : Low "has" := by decide +kernel
  have l5 : Low "=" := by decide +kernel
  cases p <;> simp only [Pl.args, Pl.words, List.mem_cons, List.not_mem_nil, or_false, forall_eq_or_imp, forall_eq] at hpu ⊢
  · exact ⟨low_cell hpu.1 hpu.2.1, l1, hpu.2.2⟩
  · exact ⟨low_cell hpu.1 hpu.2.1, l2, low_cell hpu.2.2.1 hpu.2.2.2⟩
  · exact ⟨low_cell hpu.1 hpu.2, l3⟩
  · exact ⟨hpu.1, l4, hpu.2⟩
  · exact ⟨hpu.1, l5, hpu.2⟩
theorem low_tst : ∀ {t : Tst}, t.base.fit → ∀ z ∈ t.words, Low z
  | .pl p, h => low_pl h
  | .no t, h => fun z hz => (List.mem_cons.mp hz).elim (fun e => by rw [e]; decide +kernel) (low_tst (t := t) h z)
theorem low_si {s : Si} (h : s.fit) : ∀ z ∈ s.words, Low z := by
  have hpu := low_parts h
  have l1 : Low "=" := by decide +kernel
  have l2 : Low "empty" := by decide +kernel
  have l3 : Low "0" := by decide +kernel
  have l4 : Low "up" := by decide +kernel
  have l5 : Low "down" := by decide +kernel
  have l6 : Low "do" := by decide +kernel
  have l7 : Low "chooses" := by decide +kernel
  have l8 : Low "from" := by decide +kernel
  have l9 : Low "wins" := by decide +kernel
  cases s <;> simp only [Si.args, Si.words, List.mem_cons, List.not_mem_nil, or_false, forall_eq_or_imp, forall_eq] at hpu ⊢
  · exact ⟨low_cell hpu.1 hpu.2.1, l1, hpu.2.2⟩
  · exact ⟨low_cell hpu.1 hpu.2.1, l1, low_cell hpu.2.2.1 hpu.2.2.2⟩
  · exact ⟨low_cell hpu.1 hpu.2, l1, l2⟩
  · exact ⟨hpu, l1, l3⟩
  · exact ⟨l4, hpu⟩
  · exact ⟨l5, hpu⟩
  · exact ⟨hpu.1, l1, hpu.2⟩
  · exact ⟨l6, hpu⟩
  · exact ⟨hpu.1, l7, low_cell hpu.2.1 hpu.2.2.1, l8, hpu.2.2.2⟩
  · exact ⟨hpu, l9⟩
theorem low_line {l : Ln} (h : l.fit) : Low l.text := by
  refine low_join (by decide +kernel) fun z hz => ?_
  cases l with
  | tape n p =>
    rcases List.mem_cons.mp hz with e | hz
    · rw [e]; decide +kernel
    rcases List.mem_cons.mp hz with e | hz
    · rw [e]; exact low_nm h.1
    rcases List.mem_cons.mp hz with e | hz
    · rw [e]; decide +kernel
    exact low_pw z hz
  | idx n p =>
    rcases List.mem_cons.mp hz with e | hz
    · rw [e]; decide +kernel
    rcases List.mem_cons.mp hz with e | hz
    · rw [e]; exact low_nm h.1
    rcases List.mem_cons.mp hz with e | hz
    · rw [e]; decide +kernel
    exact low_pw z hz
  | proc n =>
    rcases List.mem_cons.mp hz with e | hz
    · rw [e]; decide +kernel
    rw [List.mem_singleton.mp hz]
    exact low_nm h
  | si s => exact low_si h z hz
  | re p =>
    rcases List.mem_cons.mp hz with e | hz
    · rw [e]; decide +kernel
    exact low_pw z hz
  | if_ t =>
    rcases List.mem_cons.mp hz with e | hz
    · rw [e]; decide +kernel
    exact low_tst h.1 z hz
  | els => rw [List.mem_singleton.mp hz]; decide +kernel
  | fin => rw [List.mem_singleton.mp hz]; decide +kernel
theorem low_scr {s : Scr} (h : s.sm) : Low (scrText s) := by
  refine low_join (by decide +kernel) fun z hz => ?_
  obtain ⟨x, hx, rfl⟩ := List.mem_map.mp hz
  exact low_app (low_rep (by decide +kernel) _) (low_line (scr_fit h x hx).1)
/-! ## data that can be shown -/
/-- showable, n its size, k its depth -/
structure Sw (n k : Nat) (d : PyData) : Prop where
  sh : d.showable = true
  nd : d.hasDict = false
  lv : d.leavesShort 13 = true
  bk : d.bulk ≤ n
  dp : d.depth ≤ k
structure SwL (n k : Nat) (ds : List PyData) : Prop where
  sh : PyData.showableAll ds = true
  nd : PyData.hasDictAll ds = false
  lv : PyData.leavesShortAll 13 ds = true
  bk : PyData.bulkAll ds ≤ n
  dp : PyData.depthAll ds ≤ k
theorem Sw.mono {n k m j : Nat} {d : PyData} (h : Sw n k d) (h1 : n ≤ m) (h2 : k ≤ j) : Sw m j d := ⟨h.sh, h.nd, h.lv, Nat.le_trans h.bk h1, Nat.le_trans h.dp h2⟩
theorem SwL.mono {n k m j : Nat} {d : List PyData} (h : SwL n k d) (h1 : n ≤ m) (h2 : k ≤ j) : SwL m j d := ⟨h.sh, h.nd, h.lv, Nat.le_trans h.bk h1, Nat.le_trans h.dp h2⟩
theorem swl_nil (k : Nat) : SwL 0 k [] := ⟨by simp only [PyData.showableAll], by simp only [PyData.hasDictAll], by simp only [PyData.leavesShortAll], by simp only [PyData.bulkAll]; exact Nat.le_refl _, by simp only [PyData.depthAll]; exact Nat.zero_le _⟩
theorem swl_cons {n m k : Nat} {d : PyData} {ds : List PyData} (h : Sw n k d) (r : SwL m k ds) : SwL (n + 1 + m) k (d :: ds) := by
  refine ⟨?_, ?_, ?_, ?_, ?_⟩
  · simp only [PyData.showableAll, h.sh, r.sh, Bool.and_self]
  · simp only [PyData.hasDictAll, h.nd, r.nd, Bool.or_self]
  · simp only [PyData.leavesShortAll, h.lv, r.lv, Bool.and_self]
  · have := h.bk
    have := r.bk
    simp only [PyData.bulkAll]
    omega
  · have := h.dp
    have := r.dp
    simp only [PyData.depthAll]
    omega
theorem sw_tup {n k : Nat} {ds : List PyData} (h : SwL n k ds) : Sw n (k + 1) (.tuple ds) := by
  refine ⟨?_, ?_, ?_, ?_, ?_⟩
  · simp only [PyData.showable, h.sh]
  · simp only [PyData.hasDict, h.nd]
  · simp only [PyData.leavesShort, h.lv]
  · simp only [PyData.bulk]; exact h.bk
  · have := h.dp
    simp only [PyData.depth]
    omega
theorem sw_str {z : Str} {n : Nat} (hl : Low z) (hn : z.length ≤ n) : Sw n 0 (.str z) := by
  refine ⟨by simp only [PyData.showable], by simp only [PyData.hasDict], ?_, ?_, ?_⟩
  · simp only [PyData.leavesShort, List.all_eq_true, decide_eq_true_eq]
    exact fun c hc => Nat.lt_trans (hl c hc) (by decide)
  · simp only [PyData.bulk]
    exact hn
  · simp only [PyData.depth]; exact Nat.le_refl _
theorem sw_int {n : Nat} (h : n ≤ 1000000000000) : Sw 0 0 (.int (n : Nat)) := by
  refine ⟨?_, by simp only [PyData.hasDict], ?_, ?_, ?_⟩
  · simp only [PyData.showable, decide_eq_true_eq]
    exact log_ok h
  · simp only [PyData.leavesShort, PyData.shown]
    exact decide_eq_true (num_len h)
  · simp only [PyData.bulk]; exact Nat.le_refl _
  · simp only [PyData.depth]; exact Nat.le_refl _
theorem swl_all {n k : Nat} : ∀ {ds : List PyData}, (∀ d ∈ ds, Sw n k d) → SwL (ds.length * (n + 1)) k ds
  | [], _ => (swl_nil k).mono (Nat.zero_le _) (Nat.le_refl _)
  | d :: ds, h => by
    have := swl_cons (h d List.mem_cons_self) (swl_all (ds := ds) fun x hx => h x (List.mem_cons_of_mem _ hx))
    refine this.mono ?_ (Nat.le_refl _)
    rw [List.length_cons, Nat.succ_mul]
    omega
theorem Sw.len {n k : Nat} {d : PyData} (h : Sw n k d) (hn : n ≤ 1048576) : d.shown.length ≤ sizeLine :=
  PyData.shown_fits_bulk (B := 13) (by decide) (by decide) h.lv (Nat.le_trans h.bk (by rw [show (2 : Nat) ^ 20 = 1048576 by decide]; exact hn))
theorem sw_ws {ws : List Str} (h : ∀ z ∈ ws, Low z ∧ z.length ≤ 26) (hl : ws.length ≤ 5) : Sw 135 1 (encWs ws) := by
  have := sw_tup (swl_all (n := 26) (k := 0) (ds := ws.map .str) fun d hd => by
    obtain ⟨z, hz, rfl⟩ := List.mem_map.mp hd
    exact sw_str (h z hz).1 (h z hz).2)
  refine this.mono ?_ (Nat.le_refl _)
  rw [List.length_map]
  omega
theorem poly_len {p : Poly} (h : PolyOk p) : p.length ≤ 4 := by
  obtain ⟨h1, h2⟩ := h
  have h3 : ∀ q ∈ p, q.1 ≤ 3 := fun q hq => (h2 q hq).1
  clear h2
  match p, h1, h3 with
  | [], _, _ => exact Nat.zero_le _
  | [_], _, _ => exact Nat.succ_le_succ (Nat.zero_le _)
  | [_, _], _, _ => show 2 ≤ 4; decide
  | [_, _, _], _, _ => show 3 ≤ 4; decide
  | [_, _, _, _], _, _ => exact Nat.le_refl _
  | a :: b :: c :: d :: e :: r, h1, h3 =>
    simp only [List.pairwise_cons, List.mem_cons, forall_eq_or_imp] at h1 h3
    omega
theorem sw_poly {p : Poly} (h : PolyOk p) : Sw 20 2 (encP p) := by
  have hl := poly_len h
  have := sw_tup (swl_all (n := 2) (k := 1) (ds := p.map encQ) fun d hd => by
    obtain ⟨q, hq, rfl⟩ := List.mem_map.mp hd
    have := h.2 q hq
    exact sw_tup (swl_cons (sw_int (by omega)) (swl_cons (sw_int this.2.2) (swl_nil 0))))
  refine this.mono ?_ (Nat.le_refl _)
  rw [List.length_map]
  omega
theorem pl_word (p : Pl) : Low p.word ∧ p.word.length ≤ 26 := by cases p <;> simp only [Pl.word] <;> decide +kernel
theorem si_word (p : Si) : Low p.word ∧ p.word.length ≤ 26 := by cases p <;> simp only [Si.word] <;> decide +kernel
theorem pl_wsl (p : Pl) : p.ws.length ≤ 5 := by cases p <;> simp [Pl.ws]
theorem si_wsl (p : Si) : p.ws.length ≤ 5 := by cases p <;> simp [Si.ws]
theorem sw_tst : ∀ {t : Tst}, t.base.fit → Sw (135 + 5 * t.nots) (1 + t.nots) t.enc
  | .pl p, h => by
    refine (sw_ws (ws := p.ws) (fun z hz => ?_) ?_).mono (by omega) (by omega)
    · rw [Pl.ws_eq] at hz
      rcases List.mem_cons.mp hz with e | e
      · rw [e]; exact pl_word p
      · exact ⟨low_parts h z e, Parts.lens h z e⟩
    · exact pl_wsl p
  | .no t, h => by
    have ih := sw_tst (t := t) h
    have := sw_tup (swl_cons (sw_str (z := "not") (n := 3) (by decide +kernel) (by decide +kernel) |>.mono (Nat.le_refl _) (Nat.zero_le _)) (swl_cons ih (swl_nil _)))
    refine this.mono ?_ ?_
    · show 3 + 1 + (135 + 5 * t.nots + 1 + 0) ≤ 135 + 5 * (t.nots + 1)
      omega
    · show 1 + t.nots + 1 ≤ 1 + (t.nots + 1)
      omega
mutual
theorem sw_cmd : ∀ {c : Cmd}, c.fit → Sw (300 * c.cnt - 1) (5 + 2 * c.cnt) c.enc
  | .si s, h => by
    refine (sw_ws (ws := s.ws) (fun z hz => ?_) ?_).mono (by show 135 ≤ 300 * 1 - 1; decide) (by omega)
    · rw [Si.ws_eq] at hz
      rcases List.mem_cons.mp hz with e | e
      · rw [e]; exact si_word s
      · exact ⟨low_parts h z e, Parts.lens h z e⟩
    · exact si_wsl s
  | .re p cs, h => by
    have i1 := sw_tup (sw_cmds h.2)
    have i2 := (sw_poly h.1).mono (Nat.le_refl _) (show 2 ≤ 5 + 2 * cnts cs + 1 by omega)
    have i0 := (sw_str (z := "repeat") (n := 6) (by decide +kernel) (by decide +kernel)).mono (Nat.le_refl _) (Nat.zero_le (5 + 2 * cnts cs + 1))
    refine (sw_tup (swl_cons i0 (swl_cons i2 (swl_cons i1 (swl_nil _))))).mono ?_ ?_
    · show 6 + 1 + (20 + 1 + (300 * cnts cs + 1 + 0)) ≤ 300 * (1 + cnts cs) - 1
      omega
    · show 5 + 2 * cnts cs + 1 + 1 ≤ 5 + 2 * (1 + cnts cs)
      omega
  | .if_ t cs os, h => by
    have i1 := (sw_tup (sw_cmds h.2.1)).mono (Nat.le_refl _) (show 5 + 2 * cnts cs + 1 ≤ 5 + 2 * (cnts cs + cnts os) + 1 by omega)
    have i3 := (sw_tup (sw_cmds h.2.2)).mono (Nat.le_refl _) (show 5 + 2 * cnts os + 1 ≤ 5 + 2 * (cnts cs + cnts os) + 1 by omega)
    have hn := h.1.2
    have i2 := (sw_tst h.1.1).mono (show 135 + 5 * t.nots ≤ 150 by omega) (show 1 + t.nots ≤ 5 + 2 * (cnts cs + cnts os) + 1 by omega)
    have i0 := (sw_str (z := "if") (n := 2) (by decide +kernel) (by decide +kernel)).mono (Nat.le_refl _) (Nat.zero_le (5 + 2 * (cnts cs + cnts os) + 1))
    refine (sw_tup (swl_cons i0 (swl_cons i2 (swl_cons i1 (swl_cons i3 (swl_nil _)))))).mono ?_ ?_
    · show 2 + 1 + (150 + 1 + (300 * cnts cs + 1 + (300 * cnts os + 1 + 0))) ≤ 300 * (1 + cnts cs + cnts os) - 1
      omega
    · show 5 + 2 * (cnts cs + cnts os) + 1 + 1 ≤ 5 + 2 * (1 + cnts cs + cnts os)
      omega
theorem sw_cmds : ∀ {cs : List Cmd}, fits cs → SwL (300 * cnts cs) (5 + 2 * cnts cs) (encs cs)
  | [], _ => (swl_nil _).mono (Nat.zero_le _) (Nat.le_refl _)
  | c :: cs, h => by
    have hp := cnt_pos c
    have hc : cnts (c :: cs) = c.cnt + cnts cs := rfl
    rw [hc]
    refine (swl_cons ((sw_cmd h.1).mono (Nat.le_refl _) (show 5 + 2 * c.cnt ≤ 5 + 2 * (c.cnt + cnts cs) by omega)) ((sw_cmds h.2).mono (Nat.le_refl _) (show 5 + 2 * cnts cs ≤ 5 + 2 * (c.cnt + cnts cs) by omega))).mono ?_ (Nat.le_refl _)
    omega
end
theorem sw_scr {s : Scr} (hs : s.fit) (h1 : s.tapes.length ≤ 3) (h2 : s.idx.length ≤ 3) (h3 : s.procs.length ≤ 3) (hc : pcnt s.procs ≤ 16) : Sw 20000 50 s.enc := by
  have hh : ∀ {n : Str} {p : Poly}, Nm n → PolyOk p → Sw 50 4 (encH (n, p)) := fun hn hp =>
    (sw_tup (swl_cons ((sw_str (low_nm hn) (nm_len hn)).mono (Nat.le_refl _) (Nat.zero_le 2)) (swl_cons (sw_poly hp) (swl_nil 2)))).mono (by decide) (by decide)
  have t1 := sw_tup (swl_all (n := 50) (k := 4) (ds := s.tapes.map encH) fun d hd => by
    obtain ⟨h, hm, rfl⟩ := List.mem_map.mp hd
    exact hh (hs.t h hm).1 (hs.t h hm).2)
  have t2 := sw_tup (swl_all (n := 50) (k := 4) (ds := s.idx.map encH) fun d hd => by
    obtain ⟨h, hm, rfl⟩ := List.mem_map.mp hd
    exact hh (hs.i h hm).1 (hs.i h hm).2)
  have t3 := sw_tup (swl_all (n := 5000) (k := 45) (ds := s.procs.map encR) fun d hd => by
    obtain ⟨r, hm, rfl⟩ := List.mem_map.mp hd
    have hf := hs.p r hm
    have hl := pcnt_mem hm
    refine (sw_tup (swl_cons ((sw_str (low_nm hf.1) (nm_len hf.1)).mono (Nat.le_refl _) (Nat.zero_le _)) (swl_cons (sw_tup (sw_cmds hf.2.1)) (swl_nil _)))).mono ?_ ?_
    · show 26 + 1 + (300 * cnts r.2 + 1 + 0) ≤ 5000
      omega
    · show 5 + 2 * cnts r.2 + 1 + 1 ≤ 45
      omega)
  rw [List.length_map] at t1 t2 t3
  refine (sw_tup (swl_cons (t1.mono (show _ ≤ 200 by omega) (show 5 ≤ 46 by decide)) (swl_cons (t2.mono (show _ ≤ 200 by omega) (show 5 ≤ 46 by decide)) (swl_cons (t3.mono (show _ ≤ 16000 by omega) (Nat.le_refl _)) (swl_nil _))))).mono ?_ ?_
  · decide
  · decide
theorem scr_text_len {s : Scr} (h : s.sm) (h1 : s.tapes.length ≤ 3) (h2 : s.idx.length ≤ 3) (h3 : s.procs.length ≤ 3) (hc : pcnt s.procs ≤ 16) : (scrText s).length ≤ 1000000 := by
  have a := join_len "\n" 2400 ((scrLns s).map lnS) fun p hp => by
    obtain ⟨x, hx, rfl⟩ := List.mem_map.mp hp
    exact lnS_len (scr_fit h x hx).1 (scr_fit h x hx).2
  have b := procs_cnt s.procs
  have c : (scrLns s).length ≤ 100 := by
    unfold scrLns
    rw [List.length_append, List.length_append, List.length_map, List.length_map]
    omega
  have e : ("\n" : Str).length = 1 := by decide +kernel
  rw [List.length_map, e] at a
  unfold scrText
  omega
end NP
/-! NPRepr -/
namespace NP
open PySem PySem.Spec PyProof.Rows L2 TL
/-! ## repr of data, where nothing is under way -/
section
variable {X : Cx} {pins : List (Addr × Obj)} {σ : L2.St} {H : Hp} {s : Shared}
mutual
theorem rp_reads (I : Inv X pins σ H s) : ∀ {d : PyData} {v : V} {u : Value}, Rp H d v → RelV v u → ∃ as, Reads s.heap u d as
  | .int i, v, u, h, r => by
    have h : v = .int i := h
    subst h
    obtain ⟨t, rfl⟩ := r
    exact ⟨_, .int i t⟩
  | .str x, v, u, h, r => by
    have h : v = .str x := h
    subst h
    obtain ⟨t, rfl⟩ := r
    exact ⟨_, .str x t⟩
  | .tuple ds, v, u, h, r => by
    obtain ⟨a, xs, rfl, ha, hr⟩ := h
    obtain rfl : u = Value.ref a := r
    obtain ⟨its, rv, ⟨o, ho, hc, n, hd⟩, _⟩ := I.tuple (SqT.of ha)
    obtain ⟨as, hall⟩ := rp_readsL I hr rv
    exact ⟨as, .tuple ho hc hd hall⟩
theorem rp_readsL (I : Inv X pins σ H s) : ∀ {ds : List PyData} {xs : List V} {us : List Value}, RpL H ds xs → Vals xs us → ∃ as, ReadsAll s.heap us ds as
  | [], xs, us, h, r => by
    have h : xs = [] := h
    subst h
    cases r
    exact ⟨_, .nil⟩
  | d :: ds, xs, us, h, r => by
    obtain ⟨v, vs, rfl, h1, h2⟩ := h
    cases r with
    | cons r1 r2 =>
      obtain ⟨as, q1⟩ := rp_reads I h1 r1
      obtain ⟨bs, q2⟩ := rp_readsL I h2 r2
      exact ⟨as ++ bs, .cons q1 q2⟩
end
end
def rRepr : List V → Hp → VK → Prop := fun vs H Q => (∃ z, vs = [.str z] ∧ Low z ∧ z.length ≤ 1000000 ∧ Q (.str (reprText z)) H) ∨ (∃ d v, vs = [v] ∧ Rp H d v ∧ (∃ a, v = .ref a) ∧ Sw 100000 100 d ∧ Q (.str d.shown) H)
theorem call_repr {X : Cx} {k : Nat} (hg : X.A.guards = some []) (hr : Room k X.A) : CallR X (.builtin "repr") rRepr := by
  intro pins s σ H xs us Q I r h
  rcases h with ⟨z, rfl, hl, hz, q⟩ | ⟨d, v, rfl, hv, ⟨a, rfl⟩, hw, q⟩
  · cases r with
    | cons r1 r2 =>
      cases r2
      obtain ⟨t, rfl⟩ := r1
      refine PySem.P.repr_of_str ⟨.str _, H, I.tok _, ⟨_, rfl⟩, q⟩ (hsz := ?_)
      have := (sw_str hl hz).len (by decide)
      simpa only [PyData.shown] using this
  · cases r with
    | cons r1 r2 =>
      cases r2
      obtain ⟨as, hd⟩ := rp_reads I hv r1
      cases r1
      have hu := hr.un
      have hdp := hw.dp
      refine repr_of_reads' hd hw.sh (PyData.noDict_hsm hw.nd) hg (by omega) (fun _ _ e => e) (fun h' u tk hk => ⟨.str _, H, I.kept hk, ⟨u, rfl⟩, q⟩) (hw.len (by decide))
/-! ## a call by name alone -/
section
variable {X : Cx} {CX : CXT} {k : Nat} {f : Addr} {fd : FuncData} {ps ks : List Str} {sp : Sp} {E : XK} {x : Str} {p pos : Pos} {kws : List Keyword} {tk : TA} {g : List Value → List Value → List Value} {gV : List V → List V → List V}
theorem pe_named (F : FnOk X.prog X.w X.K X.mg X.base CX k f fd ps sp) (hr : Room k X.A) (hg : Gl X x) (hm : X.mg x = some (.ref f)) (hk : PySem.W.keepIn X.K (.ref f) = true) (hb : KBinds X.K fd ps ks g gV) (hx : Passes CX X E)
    (hkw : PK X kws tk) (hall : (backToKw pos (keywordEach kws X.env)).all (·.1.isSome) = true := by rfl) (hks : (backToKw pos (keywordEach kws X.env)).filterMap (·.1) = ks := by rfl) (hdb : (x == ("__debug__" : Str)) = false := by decide)
    (hpl : ((backTo pos (starEach [] X.env)).any (·.1) || (backToKw pos (keywordEach kws X.env)).any (·.1.isNone)) = false := by rfl) : PE X (.Call (.Name x p) [] kws pos) (tCallK sp gV E tNil tk) := ⟨fun pins s σ H Q I h => by
  refine wpAny_Call_Name_kw (ld_glob I hg hm (PySem.W.callWith_KW0 (h₀ := X.base) I.ok.mod.kin hk hall (thn (hkw.run pos pins s σ H _ I h) fun ws s2 hq => ?_) hpl) hdb)
  obtain ⟨zs, H2, I2, rz, q2⟩ := hq
  refine ⟨I2.kIn, ?_⟩
  rw [hks]
  exact run_fnk (us := []) (vs := []) F hr hb hx I2 .nil rz q2⟩
end
end NP
/-! NPEnd -/
namespace NP
open PySem PySem.Spec PyProof.Rows L2
section
variable {P : Program} {w : World} {K : PySem.W.Frag} {mg : Str → Option Value} {base : Heap}
/-- a call of a def, for one caller alone -/
theorem Has.once {d : He.DefD} (D : Has K mg d) {N ps : List Str} {k : Nat} {A : Around} {outer : List Env} {s : Shared} {H : Hp} {us : List Value} {vs : List V} {Q : VK} (S : FnScope N ps d.scope)
    (hb : ∀ (kV doc pm : Value) (an : Option Addr) (cdv ct : Value) (ys : List Value), ys.length = ps.length → bindArgs (PySem.W.fnOf d.name d.qual d.params d.body d.scope .none kV doc pm an cdv ct) ⟨ys, []⟩ = pure (ps.zip ys))
    (room : Room (k + 1) A) (env : Env0 P w K mg base A outer s H) (hr : Vals vs us) (hl : vs.length = ps.length)
    (hbody : ∀ cdv, Room k (A.deeper (envOfC d.qual d.scope s.heap.objs.size (He.ga K d.name) cdv)) →
      ∃ t, PSs (cxOf CX0 P w K mg base N d.qual d.scope (He.ga K d.name) cdv A outer s H fun _ _ _ => False).nox d.body t ∧ t { nx := fun _ H' => Q .non H', rt := Q } (start N vs) H) :
    codeAny (model P w) A (.call (.ref (He.ga K d.name)) ⟨us, []⟩) (CR CX0 outer P w H s Q fun _ _ _ => False) s := by
  obtain ⟨⟨fd, F⟩, _⟩ := D
  have inK : K.In s.heap := PySem.W.Frag.In.keeps env.mod.kin fun b o z => (env.bs b o z).1
  have nolim : s.heap.NoLimit := Heap.NoLimit.keeps env.mod.nolimit fun b o z => (env.bs b o z).1
  have lus : us.length = ps.length := hr.length.symm.trans hl
  have bnd := FunD.bindsA F hb s us lus
  obtain ⟨oc, od, dV, kV, doc, pm, an, cdv, ct, osl, efd, look, code, _, _⟩ := F.ex
  subst efd
  have kinds : ∀ y ∈ ps.zip us, d.scope.names.lookup y.1 = some .local ∨ (d.scope.names.lookup y.1 = some .cell ∧ ((cellsFrom (s.heap.objs.size + 1) d.scope.names []).lookup y.1).isSome = true) := by
    intro y hy
    have par := S.par y.1 (List.of_mem_zip (show (y.1, y.2) ∈ ps.zip us from hy)).1
    exact par.imp id fun c => ⟨c, PySem.W.cellsFrom_some _ _ _ (.inl c)⟩
  have start_ : ∀ (envF : Env), envF = envOfC d.qual d.scope s.heap.objs.size (He.ga K d.name) cdv → ∀ s1, InCallC s s.heap.objs.size (bindL (envOfC d.qual d.scope s.heap.objs.size (He.ga K d.name) cdv).kindOf (ps.zip us) fun _ => none) (cellsFrom (s.heap.objs.size + 1) d.scope.names []) (bindC (envOfC d.qual d.scope s.heap.objs.size (He.ga K d.name) cdv).kindOf (ps.zip us) fun _ => none) s1 →
      wpAny (model P w) (A.deeper (envOfC d.qual d.scope s.heap.objs.size (He.ga K d.name) cdv)) (execs d.body (envOfC d.qual d.scope s.heap.objs.size (He.ga K d.name) cdv)) (fun f s' => CR CX0 outer P w H s Q (fun _ _ _ => False) (.ok (.ret (match f with | .ret v => v | _ => .none))) s') (fun e s' => False) s1 := by
    intro envF _ s1 x
    obtain ⟨t, ht, hq⟩ := hbody cdv (room.deeper _)
    have inv : Inv (cxOf CX0 P w K mg base N d.qual d.scope (He.ga K d.name) cdv A outer s H fun _ _ _ => False) [] (start N vs) H s1 := inv_start S room.hd env hl hr x
    refine wpAny_mono (ht.run [] s1 (start N vs) H _ (inv.wish _) hq) (fun fl s' post => ?_) fun e s' post => post
    have post := post.unwish
    cases fl with
    | ret u => obtain ⟨v, _, H', J, rv, q⟩ := post; exact ⟨v, H', J.os, J.bare, J.base, J.hok, rv, q⟩
    | next => obtain ⟨_, H', J, q⟩ := post; exact ⟨.non, H', J.os, J.bare, J.base, J.hok, rfl, q⟩
    | brk => obtain ⟨_, _, _, q⟩ := post; exact q.elim
    | cont => obtain ⟨_, _, _, q⟩ := post; exact q.elim
  refine codeAny_call_function room.depth (inK _ _ look) rfl S.co S.gen rfl (PySem.W.codeRec_of inK code) (bnd _ _ _ _ (wpAny_newFunctionEnv_cells S.kind kinds fun envF he s1 x => ?_))
  subst he
  exact ⟨nolim.keeps x.toInCall.keep, codeAny_func (wpAny_mono (start_ _ rfl s1 x) (fun _ _ z => z) fun _ _ z => z.elim)⟩
/-- the list that the law is called with, tracked unless it is one of the module's own -/
def scriptH (K : PySem.W.Frag) (a : Addr) (u : HO) : Hp := fun b => if b = a ∧ K.lookup a = none then some u else none
theorem scriptH_some {a b : Addr} {u v : HO} (h : scriptH K a u b = some v) : b = a ∧ K.lookup a = none ∧ u = v := by
  unfold scriptH at h
  split at h
  · next c => exact ⟨c.1, c.2, Option.some.inj h⟩
  · cases h
theorem scriptH_none {a b : Addr} {u : HO} (h : b ≠ a) : scriptH K a u b = none := if_neg fun c => h c.1
/-- the law's promise, for the caller that asks -/
theorem law_at {mb : Str → Option Value} {fa a : Addr} {s : Shared} {vs : List Value} {ns : List Int} (inK : K.In s.heap) (hn : s.heap.Ns mainGlobals mg) (hb : s.heap.Ns builtinsNs mb) (bb : ∀ y : Str, y ≠ "__name__" → mb y = bootBuiltins y)
    (lim : s.heap.NoLimit) (gs : s.gens = #[]) (at_a : s.heap.get? a = some { cls := .type "list", data := .seq vs.toArray }) (iv : IntsAre vs ns) (short : ns.length ≤ sizeLine)
    (run : ∀ (base : Heap) (H : Hp), K.In base → base.Ns mainGlobals mg → SqL K H a (ns.map V.int) → (∀ G, Same H G → SqL K G a (ns.map V.int)) → Env0 P w K mg base callerA [] s H →
      codeAny (model P w) callerA (.call (.ref fa) ⟨[.ref a], []⟩) (CR CX0 [] P w H s (fun v _ => v = .bl true) fun _ _ _ => False) s) :
    codeAny (model P w) callerA (.call (.ref fa) ⟨[.ref a], []⟩) (fun r t => r = .ok (.ret (.bool true)) ∧ OldK s.heap t.heap ∧ t.os = s.os ∧ AllBare t.gens) s := by
  have vals : Vals (ns.map V.int) vs := vals_ints iv
  have nlen : vs.length = ns.length := iv.length
  let U : HO := .frz { cls := .type "list", data := .seq vs.toArray } (.lst (ns.map V.int))
  have objs : HOk P w (scriptH K a U) s.heap := fun b v e => by
    obtain ⟨rfl, _, rfl⟩ := scriptH_some e
    exact ⟨at_a, by rw [List.length_map]; exact short, vs, _, vals, at_a⟩
  have untr : ∀ {b : Addr} {o : Obj} {es : Array DictEntry} {ep : Nat}, s.heap.get? b = some o → o.data = .dict es ep → scriptH K a U b = none := fun {b o es ep} e dd => by
    refine scriptH_none fun eba => ?_
    rw [eba, at_a] at e
    cases e
    exact Data.noConfusion dd
  have ns_ : ∀ {b : Addr} {m : Str → Option Value}, s.heap.Ns b m → (hidT s.heap (scriptH K a U)).Ns b m := fun hm => by
    obtain ⟨o, es, ep, e, dd, more⟩ := hm
    exact ⟨o, es, ep, hidT_get e (untr e dd), dd, more⟩
  have inB : K.In (hidT s.heap (scriptH K a U)) := fun b o e => by
    refine hidT_get (inK b o e) ?_
    cases q : scriptH K a U b with
    | none => rfl
    | some v =>
      obtain ⟨rfl, no, _⟩ := scriptH_some q
      rw [no] at e
      cases e
  have limB : (hidT s.heap (scriptH K a U)).NoLimit := by
    obtain ⟨mc, h1, h2⟩ := lim
    exact ⟨mc, ns_ h1, h2⟩
  have seen : SqL K (scriptH K a U) a (ns.map V.int) ∧ ∀ G, Same (scriptH K a U) G → SqL K G a (ns.map V.int) := by
    cases hk : K.lookup a with
    | none =>
      have e : scriptH K a U a = some U := if_pos ⟨rfl, hk⟩
      exact ⟨.inl (.inr ⟨_, e⟩), fun G hG => .inl (.inr ⟨_, hG _ _ e⟩)⟩
    | some o =>
      have e := inK a o hk
      rw [at_a] at e
      cases e
      have own : ∀ G : Hp, SqL K G a (ns.map V.int) := fun G => .inr ⟨_, vs.toArray, _, hk, rfl, rfl, rfl, by rw [List.size_toArray, nlen]; exact short, vals⟩
      exact ⟨own _, fun G _ => own G⟩
  have env : Env0 P w K mg (hidT s.heap (scriptH K a U)) callerA [] s (scriptH K a U) :=
    { frames := rfl, mod := ⟨inB, ns_ hn, ⟨mb, ns_ hb, bb⟩, limB⟩, bs := fun b o e => of_hidT e, bsz := by rw [hidT_size]; exact Nat.le_refl _, funs := trivial, frf := (fun b hb => by cases hb), hok := objs, bare := .of_eq gs }
  refine codeAny_mono (run _ _ inB (ns_ hn) seen.1 seen.2 env) fun r t h => ?_
  match r, h with
  | .error _, h => exact False.elim h
  | .ok .next, h => exact False.elim h
  | .ok .brk, h => exact False.elim h
  | .ok .cont, h => exact False.elim h
  | .ok (.ret u), ⟨v, H', os, bare, un, ok', rv, q⟩ =>
    have q : v = .bl true := q
    subst q
    obtain rfl : u = Value.bool true := rv
    refine ⟨rfl, OldK.of_keep fun b o e => ?_, os, bare⟩
    cases q : scriptH K a U b with
    | none => exact un.keep b o e q (fun z => by cases z) (fun z => by cases z)
    | some v =>
      obtain ⟨rfl, _, rfl⟩ := scriptH_some q
      have kept := (ok' _ _ (un.frzs _ _ _ q)).1
      rw [at_a] at e
      cases e
      exact kept
end
end NP
/-! NPFault -/
namespace NP
open PySem PySem.Spec PyProof.Rows L2 TL
/-! ### a comprehension with an if that keeps nothing -/
theorem lc_none {J : It} {n : Nat} {G : Hp → Prop} {Y : Nat → Hp → V → Hp → Prop} (w : Walk J n G Y) {g : TG} {tt : TT} {te : TE} {vs : List Nat} {σ : L2.St} {H1 : Hp} {D : Addr} {Qd : Hp → Prop} (hD : H1 D = none)
    (hG : ∀ H', Same H1 H' → G H')
    (step : ∀ i x H H2, i < n → Same H1 H → Y i H x H2 → ∀ (C : L2.St → Bool → Hp → Prop), (∀ σ' H5, Same H H5 → C σ' false H5) →
      g x (wipe σ vs) H2 fun σ2 H3 => wipe σ2 vs = wipe σ vs ∧ tt σ2 H3 (C σ2))
    (fin : ∀ H', Same H1 H' → H' D = some (.lst []) → Qd H') :
    ∃ W : Nat → Nat → Hp → Prop, (∃ m, W 0 m (upd H1 D (.lst []))) ∧ ∀ i m H, W i m H →
      (J.stop i H ∧ Qd H) ∨ (J.go i H ∧ ∃ Nx : Hp → Prop, (∀ H', Nx H' → ∃ m', m' < m ∧ W (i + 1) m' H') ∧ ∀ x H', J.yld i H x H' → g x (wipe σ vs) H' fun σ2 H2 => wipe σ2 vs = wipe σ vs ∧ tt σ2 H2 fun b H3 =>
        if b = true then te σ2 H3 fun y H4 => ∃ acc, H4 D = some (.lst acc) ∧ acc.length < sizeLine ∧ Nx (upd H4 D (.lst (acc ++ [y]))) else Nx H3) := by
  refine lc_it w (fun i H => SameD D H1 H ∧ H D = some (.lst [])) ⟨.upd, upd_same⟩ (fun i H _ h => hG H (h.1.same hD)) (fun i x H H' hi h hy => ?_) fun H h => fin H (h.1.same hD) h.2
  exact step i x H H' hi (h.1.same hD) hy (fun σ2 b H3 => if b = true then te σ2 H3 fun y H4 => ∃ acc, H4 D = some (.lst acc) ∧ acc.length < sizeLine ∧ (SameD D H1 (upd H4 D (.lst (acc ++ [y]))) ∧ (upd H4 D (.lst (acc ++ [y]))) D = some (.lst [])) else SameD D H1 H3 ∧ H3 D = some (.lst [])) fun σ' H5 s5 => by
    rw [if_neg (by decide)]
    exact ⟨h.1.trans (.of s5), s5 _ _ h.2⟩
/-! ### parts: commands and tests -/
inductive Prt where
  | cm (c : Cmd) | tt (t : Tst)
def Prt.enc : Prt → PyData
  | .cm x => x.enc
  | .tt x => x.enc
def Tst.word : Tst → Str
  | .pl p => p.word
  | .no _ => "not"
def Prt.word : Prt → Str
  | .cm x => x.word
  | .tt x => x.word
/-- the texts it begins with -/
def Prt.wsl : Prt → List Str
  | .cm (.si s) => s.ws
  | .cm (.re ..) => ["repeat"]
  | .cm (.if_ ..) => ["if"]
  | .tt (.pl p) => p.ws
  | .tt (.no _) => ["not"]
def Prt.ok (ts own is ps : List Str) : Prt → Prop
  | .cm x => x.ok ts own is ps
  | .tt x => x.base.ok ts is
theorem Rp.prt {H : Hp} {p : Prt} {v : V} (h : Rp H p.enc v) : ∃ (q : Addr) (us : List V), v = .ref q ∧ H q = some (.tup us) ∧ us[0]? = some (.str p.word) ∧ ∀ (n : Nat) (z : Str), p.wsl[n]? = some z → us[n]? = some (.str z) := by
  have hws : ∀ (ws : List Str) (v : V), Rp H (encWs ws) v → ∃ (q : Addr) (us : List V), v = .ref q ∧ H q = some (.tup us) ∧ ∀ (n : Nat) (z : Str), ws[n]? = some z → us[n]? = some (.str z) := fun ws v h => by
    obtain ⟨a, e, ha⟩ := Rp.ws h
    exact ⟨a, _, e, ha, fun n z hz => by rw [List.getElem?_map, hz]; rfl⟩
  have one : ∀ (x : Str) (us : List V) (n : Nat) (z : Str), [x][n]? = some z → us[0]? = some (.str x) → us[n]? = some (.str z) := fun x us n z h1 h2 => by
    cases n with
    | zero => cases h1; exact h2
    | succ n => simp at h1
  cases p with
  | cm c =>
    cases c with
    | si s =>
      obtain ⟨q, us, e, hq, hn⟩ := hws s.ws v h
      exact ⟨q, us, e, hq, hn 0 s.word (by rw [s.ws_eq]; rfl), hn⟩
    | re p cs =>
      obtain ⟨a, u, b, xs, rfl, ha, _⟩ := Rp.rep h
      exact ⟨a, _, rfl, ha, rfl, fun n z hz => one _ _ n z hz rfl⟩
    | if_ t cs os =>
      obtain ⟨a, u, b, c, xs, ys, rfl, ha, _⟩ := Rp.ifc h
      exact ⟨a, _, rfl, ha, rfl, fun n z hz => one _ _ n z hz rfl⟩
  | tt t =>
    cases t with
    | pl p =>
      obtain ⟨q, us, e, hq, hn⟩ := hws p.ws v h
      exact ⟨q, us, e, hq, hn 0 p.word (by rw [p.ws_eq]; rfl), hn⟩
    | no t =>
      obtain ⟨a, u, rfl, ha, _⟩ := Rp.no h
      exact ⟨a, _, rfl, ha, rfl, fun n z hz => one _ _ n z hz rfl⟩
def Si.tat : Si → List Nat
  | .set .. => [1] | .copy .. => [1, 3] | .clear .. => [1] | .choose .. => [2] | _ => []
def Si.iat : Si → List Nat
  | .set .. => [2] | .copy .. => [2, 4] | .clear .. => [2] | .choose .. => [3] | .zero .. => [1] | .up .. => [1] | .down .. => [1] | .same .. => [1, 2] | _ => []
def Si.wat : Si → List Nat
  | .set .. => [1] | .copy .. => [1] | .clear .. => [1] | .choose .. => [2] | _ => []
def Pl.tat : Pl → List Nat
  | .is .. => [1] | .equal .. => [1, 3] | .empty .. => [1] | .inside .. => [1] | .at .. => []
def Pl.iat : Pl → List Nat
  | .is .. => [2] | .equal .. => [2, 4] | .empty .. => [2] | .inside .. => [2] | .at .. => [1, 2]
def Prt.tat : Prt → List Nat
  | .cm (.si s) => s.tat | .tt (.pl p) => p.tat | _ => []
def Prt.iat : Prt → List Nat
  | .cm (.si s) => s.iat | .tt (.pl p) => p.iat | _ => []
def Prt.wat : Prt → List Nat
  | .cm (.si s) => s.wat | _ => []
section
variable {w : World} {K : PySem.W.Frag} {mg : Str → Option Value}
theorem tab_tapes (T : Top w K mg) (p : Prt) : KGet K (He.ga K "TAPES_AT") p.word p.tat := by
  cases p with
  | cm c =>
    cases c with
    | si s =>
      cases s with
      | set a i x => exact .inr (T.tupE 17)
      | copy a i b j => exact .inr (T.tupE 18)
      | clear a i => exact .inr (T.tupE 19)
      | zero i => exact .inl ⟨rfl, T.noE 29⟩
      | up i => exact .inl ⟨rfl, T.noE 30⟩
      | down i => exact .inl ⟨rfl, T.noE 31⟩
      | same i j => exact .inl ⟨rfl, T.noE 32⟩
      | go p => exact .inl ⟨rfl, T.noE 33⟩
      | choose pl a i ls => exact .inr (T.tupE 20)
      | wins pl => exact .inl ⟨rfl, T.noE 34⟩
    | re p cs => exact .inl ⟨rfl, T.noE 36⟩
    | if_ t cs os => exact .inl ⟨rfl, T.noE 35⟩
  | tt t =>
    cases t with
    | pl p =>
      cases p with
      | is a i x => exact .inr (T.tupE 21)
      | equal a i b j => exact .inr (T.tupE 22)
      | empty a i => exact .inr (T.tupE 23)
      | inside a i => exact .inr (T.tupE 24)
      | «at» i j => exact .inl ⟨rfl, T.noE 37⟩
    | no t => exact .inl ⟨rfl, T.noE 38⟩
theorem tab_idx (T : Top w K mg) (p : Prt) : KGet K (He.ga K "INDEXES_AT") p.word p.iat := by
  cases p with
  | cm c =>
    cases c with
    | si s =>
      cases s with
      | set a i x => exact .inr (T.tupE 25)
      | copy a i b j => exact .inr (T.tupE 26)
      | clear a i => exact .inr (T.tupE 27)
      | zero i => exact .inr (T.tupE 29)
      | up i => exact .inr (T.tupE 30)
      | down i => exact .inr (T.tupE 31)
      | same i j => exact .inr (T.tupE 32)
      | go p => exact .inl ⟨rfl, T.noE 39⟩
      | choose pl a i ls => exact .inr (T.tupE 28)
      | wins pl => exact .inl ⟨rfl, T.noE 40⟩
    | re p cs => exact .inl ⟨rfl, T.noE 42⟩
    | if_ t cs os => exact .inl ⟨rfl, T.noE 41⟩
  | tt t =>
    cases t with
    | pl p =>
      cases p with
      | is a i x => exact .inr (T.tupE 33)
      | equal a i b j => exact .inr (T.tupE 34)
      | empty a i => exact .inr (T.tupE 35)
      | inside a i => exact .inr (T.tupE 36)
      | «at» i j => exact .inr (T.tupE 37)
    | no t => exact .inl ⟨rfl, T.noE 43⟩
theorem tab_wr (T : Top w K mg) (p : Prt) : KGet K (He.ga K "WRITTEN_AT") p.word p.wat := by
  cases p with
  | cm c =>
    cases c with
    | si s =>
      cases s with
      | set a i x => exact .inr (T.tupE 38)
      | copy a i b j => exact .inr (T.tupE 39)
      | clear a i => exact .inr (T.tupE 40)
      | zero i => exact .inl ⟨rfl, T.noE 44⟩
      | up i => exact .inl ⟨rfl, T.noE 45⟩
      | down i => exact .inl ⟨rfl, T.noE 46⟩
      | same i j => exact .inl ⟨rfl, T.noE 47⟩
      | go p => exact .inl ⟨rfl, T.noE 48⟩
      | choose pl a i ls => exact .inr (T.tupE 41)
      | wins pl => exact .inl ⟨rfl, T.noE 49⟩
    | re p cs => exact .inl ⟨rfl, T.noE 51⟩
    | if_ t cs os => exact .inl ⟨rfl, T.noE 50⟩
  | tt t =>
    cases t with
    | pl p =>
      cases p with
      | is a i x => exact .inl ⟨rfl, T.noE 52⟩
      | equal a i b j => exact .inl ⟨rfl, T.noE 53⟩
      | empty a i => exact .inl ⟨rfl, T.noE 54⟩
      | inside a i => exact .inl ⟨rfl, T.noE 55⟩
      | «at» i j => exact .inl ⟨rfl, T.noE 56⟩
    | no t => exact .inl ⟨rfl, T.noE 57⟩
end
/-- what stands at these places is one of these -/
def AtIn (ws : List Str) (ns : List Nat) (l : List Str) : Prop := ∀ n ∈ ns, ∃ z, ws[n]? = some z ∧ z ∈ l
theorem AtIn.nil {ws l : List Str} : AtIn ws [] l := fun n h => by cases h
theorem AtIn.cons {ws l : List Str} {n : Nat} {ns : List Nat} {z : Str} (h : ws[n]? = some z) (m : z ∈ l) (r : AtIn ws ns l) : AtIn ws (n :: ns) l := fun k hk =>
  (List.mem_cons.mp hk).elim (fun e => by rw [e]; exact ⟨z, h, m⟩) (r k)
theorem Prt.tat_ok {ts own is ps : List Str} (ho : ∀ z ∈ own, z ∈ ts) {p : Prt} (h : p.ok ts own is ps) : AtIn p.wsl p.tat ts := by
  cases p with
  | cm c =>
    cases c with
    | si s =>
      cases s with
      | set a i x => exact .cons rfl (ho _ h.1) .nil
      | copy a i b j => exact .cons rfl (ho _ h.1) (.cons rfl h.2.2.1 .nil)
      | clear a i => exact .cons rfl (ho _ h.1) .nil
      | zero i => exact .nil
      | up i => exact .nil
      | down i => exact .nil
      | same i j => exact .nil
      | go p => exact .nil
      | choose pl a i ls => exact .cons rfl (ho _ h.2.1) .nil
      | wins pl => exact .nil
    | re p cs => exact .nil
    | if_ t cs os => exact .nil
  | tt t =>
    cases t with
    | pl p =>
      cases p with
      | is a i x => exact .cons rfl h.1 .nil
      | equal a i b j => exact .cons rfl h.1 (.cons rfl h.2.2.1 .nil)
      | empty a i => exact .cons rfl h.1 .nil
      | inside a i => exact .cons rfl h.1 .nil
      | «at» i j => exact .nil
    | no t => exact .nil
theorem Prt.iat_ok {ts own is ps : List Str} {p : Prt} (h : p.ok ts own is ps) : AtIn p.wsl p.iat is := by
  cases p with
  | cm c =>
    cases c with
    | si s =>
      cases s with
      | set a i x => exact .cons rfl h.2.1 .nil
      | copy a i b j => exact .cons rfl h.2.1 (.cons rfl h.2.2.2 .nil)
      | clear a i => exact .cons rfl h.2 .nil
      | zero i => exact .cons rfl h .nil
      | up i => exact .cons rfl h .nil
      | down i => exact .cons rfl h .nil
      | same i j => exact .cons rfl h.1 (.cons rfl h.2 .nil)
      | go p => exact .nil
      | choose pl a i ls => exact .cons rfl h.2.2.1 .nil
      | wins pl => exact .nil
    | re p cs => exact .nil
    | if_ t cs os => exact .nil
  | tt t =>
    cases t with
    | pl p =>
      cases p with
      | is a i x => exact .cons rfl h.2.1 .nil
      | equal a i b j => exact .cons rfl h.2.1 (.cons rfl h.2.2.2 .nil)
      | empty a i => exact .cons rfl h.2 .nil
      | inside a i => exact .cons rfl h.2 .nil
      | «at» i j => exact .cons rfl h.1 (.cons rfl h.2 .nil)
    | no t => exact .nil
theorem Prt.wat_ok {ts own is ps : List Str} {p : Prt} (h : p.ok ts own is ps) : AtIn p.wsl p.wat own := by
  cases p with
  | cm c =>
    cases c with
    | si s =>
      cases s with
      | set a i x => exact .cons rfl h.1 .nil
      | copy a i b j => exact .cons rfl h.1 .nil
      | clear a i => exact .cons rfl h.1 .nil
      | zero i => exact .nil
      | up i => exact .nil
      | down i => exact .nil
      | same i j => exact .nil
      | go p => exact .nil
      | choose pl a i ls => exact .cons rfl h.2.1 .nil
      | wins pl => exact .nil
    | re p cs => exact .nil
    | if_ t cs os => exact .nil
  | tt t => exact .nil
theorem Prt.go_ok {ts own is ps : List Str} {p : Prt} (h : p.ok ts own is ps) (e : p.word = "do") : ∃ z, p.wsl[1]? = some z ∧ z ∈ ps := by
  have pls : ∀ p : Pl, p.word ≠ "do" := fun p => by cases p <;> simp only [Pl.word] <;> decide +kernel
  cases p with
  | cm c =>
    cases c with
    | si s =>
      cases s with
      | go p => exact ⟨p, rfl, h⟩
      | _ => exact absurd e (by simp only [Prt.word, Cmd.word, Si.word]; decide +kernel)
    | re p cs => exact absurd e (show ("repeat" : Str) ≠ "do" by decide +kernel)
    | if_ t cs os => exact absurd e (show ("if" : Str) ≠ "do" by decide +kernel)
  | tt t =>
    cases t with
    | pl p => exact absurd e (pls p)
    | no t => exact absurd e (show ("not" : Str) ≠ "do" by decide +kernel)
section
variable {P : Program} {w : World} {K : PySem.W.Frag} {mg : Str → Option Value} {base : Heap}
def sp_input_faults : Sp := fun vs H Q _ => ∃ (p : Prt) (a : Addr) (v : V) (ts own is ps : List Str), vs = [.ref a, v] ∧ Rp H p.enc v ∧ p.ok ts own is ps ∧ (∀ z ∈ own, z ≠ "input") ∧ ∀ l H', Same H H' → H l = none → H' l = some (.lst []) → Q (.ref l) H'
abbrev nn_input_faults : List Str := ["path", "part", "at"]
theorem sc_input_faults : FnScope nn_input_faults ["path", "part"] d_input_faults.scope := ⟨rfl, rfl, rfl, by decide +kernel, rfl, by decide +kernel, by decide +kernel⟩
theorem ok_input_faults (T : Top w K mg) : OK P w K mg base 1 "input_faults" ["path", "part"] sp_input_faults := by
  refine Has.ok (d := d_input_faults) (T.has 59 61 rfl rfl rfl rfl rfl) sc_input_faults (fun _ _ _ _ _ _ us hl => match us, hl with | [_, _], _ => rfl) (by rintro _ _ _ _ ⟨_, _, _, _, _, _, _, rfl, _⟩; rfl) (fun f cdv A outer s H vs Q E hRm h => ?_)
  obtain ⟨p, a, v, ts, own, is, ps, rfl, hv, hok, hown, q⟩ := h
  obtain ⟨es, n, kd_WRITTEN_AT⟩ := T.tab 6
  refine ⟨_, (pss_one (ps_ret (pe_lc (own := [("at", 2)]) rfl sc_input_faults.nd (pi_tup (pe_kget2 kd_WRITTEN_AT (pe_gr (T.glo 57) rfl) (pe_ix ixT (pv 1) pe_int (fun _ _ => rfl)) (pe_tup pa_nil) ⟨rfl, rfl, rfl, rfl⟩)) (blkOk_by (N := nn_input_faults) (sc := d_input_faults.scope) (by decide +kernel)) (fun _ _ _ _ _ => (pg_name (i := 2) sc_input_faults.nd rfl (.inl rfl))) (fun _ _ _ _ _ => (pts_one (pt_cmpR op_eq (pe_ix ixT (pv 1) (pv 2) (fun _ _ => rfl)) (pe_gs (T.str 88) rfl) (nomark _)))) (fun _ _ _ _ _ => (pe_tup (pa_cons pe_str (pa_cons (pe_op catT (pv 0) (pe_tup (pa_cons (pv 2) pa_nil))) pa_nil))))))), ?_⟩
  obtain ⟨b, us, rfl, hb, h0, hws⟩ := Rp.prt hv
  refine ⟨_, rfl, b, _, 0, _, rfl, rfl, hb, h0, by show 0 ≤ sizeLine; decide, fun t ht => ?_⟩
  have s1 : Same H (upd H t (.tup [])) := same_upd ht
  obtain ⟨r, hrr, al, har, hsq⟩ := (tab_wr T p).get (t := t) (H := upd H t (.tup [])) upd_same
  generalize upd H t (.tup []) = H1 at s1 hsq ⊢
  refine ⟨_, r, rfl, hrr, al, har, ⟨_, hsq _ (.refl _)⟩, fun D hD => ?_⟩
  refine lc_none walk_tup hD (fun H' s2 => hsq _ (same_tk s2)) (fun i x H2 H3 hi s2 hy C k => ?_) fun H2 s2 hD2 => ?_
  · obtain ⟨rfl, hx⟩ := hy
    rw [List.getElem?_map] at hx
    obtain ⟨n, h1, rfl⟩ := Option.map_eq_some_iff.mp hx
    obtain ⟨z, h2, h3⟩ := Prt.wat_ok hok n (List.mem_of_getElem? h1)
    refine ⟨rfl, _, rfl, _, rfl, b, _, n, _, rfl, rfl, s2 _ _ (s1 _ _ hb), hws _ _ h2, rfl, _, rfl, ?_⟩
    rw [decide_eq_false (vs_ne (hown z h3))]
    exact k _ _ (.refl _)
  · exact q D H2 (s1.trans s2) (Same.newL s1 hD) hD2
def sp_unknown_faults : Sp := fun vs H Q _ => ∃ (p : Prt) (a l1 l2 l3 : Addr) (v : V) (ts own is ps : List Str), vs = [.ref a, v, .ref l1, .ref l2, .ref l3] ∧ Rp H p.enc v ∧ p.ok ts own is ps ∧ (∀ z ∈ own, z ∈ ts) ∧
  H l1 = some (.lst (ts.map V.str)) ∧ H l2 = some (.lst (is.map V.str)) ∧ H l3 = some (.lst (ps.map V.str)) ∧ ∀ l H', Same H H' → H l = none → H' l = some (.lst []) → Q (.ref l) H'
abbrev nn_unknown_faults : List Str := ["path", "part", "tapes", "indexes", "procedures", "word", "places", "at"]
theorem sc_unknown_faults : FnScope nn_unknown_faults ["path", "part", "tapes", "indexes", "procedures"] d_unknown_faults.scope := ⟨rfl, rfl, rfl, by decide +kernel, rfl, by decide +kernel, by decide +kernel⟩
theorem ok_unknown_faults (T : Top w K mg) : OK P w K mg base 1 "unknown_faults" ["path", "part", "tapes", "indexes", "procedures"] sp_unknown_faults := by
  refine Has.ok (d := d_unknown_faults) (T.has 58 60 rfl rfl rfl rfl rfl) sc_unknown_faults (fun _ _ _ _ _ _ us hl => match us, hl with | [_, _, _, _, _], _ => rfl) (by rintro _ _ _ _ ⟨_, _, _, _, _, _, _, _, _, _, rfl, _⟩; rfl) (fun f cdv A outer s H vs Q E hRm h => ?_)
  obtain ⟨p, a, l1, l2, l3, v, ts, own, is, ps, rfl, hv, hok, hown, h1, h2, h3, q⟩ := h
  obtain ⟨es, n, kd_TAPES_AT⟩ := T.tab 4
  obtain ⟨es2, n2, kd_INDEXES_AT⟩ := T.tab 5
  refine ⟨_, (pss_cons (ps_set (i := 5) sc_unknown_faults.nd rfl (.inl rfl) (pe_ix ixT (pv 1) pe_int (fun _ _ => rfl)))
    (pss_cons (ps_setLc (i := 6) (own := [("at", 7)]) rfl sc_unknown_faults.nd rfl rfl (sw_true rfl rfl rfl (by decide +kernel)) (pi_tup (pe_kget2 kd_TAPES_AT (pe_gr (T.glo 55) rfl) (pv 5) (pe_tup pa_nil) ⟨rfl, rfl, rfl, rfl⟩)) (blkOk_by (N := nn_unknown_faults) (sc := d_unknown_faults.scope) (by decide +kernel)) (fun _ _ _ _ _ => (pg_name (i := 7) sc_unknown_faults.nd rfl (.inl rfl))) (fun _ _ _ _ _ => (pts_one (pt_cmpR notInLs (pe_ix ixT (pv 1) (pv 7) (fun _ _ => rfl)) (pv 2) (by rfl)))) (fun _ _ _ _ _ => (pv 7)))
    (pss_cons (ps_expr (pe_bm PySem.F.plainAttrs_list PySem.F.slot_list_extend PySem.F.type_list_extend mt_extend (pv 6) (pa_cons (pe_lc (own := [("at", 7)]) rfl sc_unknown_faults.nd (pi_tup (pe_kget2 kd_INDEXES_AT (pe_gr (T.glo 56) rfl) (pv 5) (pe_tup pa_nil) ⟨rfl, rfl, rfl, rfl⟩)) (blkOk_by (N := nn_unknown_faults) (sc := d_unknown_faults.scope) (by decide +kernel)) (fun _ _ _ _ _ => (pg_name (i := 7) sc_unknown_faults.nd rfl (.inl rfl))) (fun _ _ _ _ _ => (pts_one (pt_cmpR notInLs (pe_ix ixT (pv 1) (pv 7) (fun _ _ => rfl)) (pv 3) (by rfl)))) (fun _ _ _ _ _ => (pv 7))) pa_nil)))
    (pss_cons (ps_if (PW.pt (pw_and (pt_cmpR op_eq (pv 5) pe_str (nomark _)) (pw_and1 (pt_cmpR notInLs (pe_ix ixT (pv 1) pe_int (fun _ _ => rfl)) (pv 4) (by rfl))))) (pss_one (ps_expr (pe_bm PySem.F.plainAttrs_list PySem.F.slot_list_append PySem.F.type_list_append mt_append (pv 6) (pa_cons pe_int pa_nil)))) pss_nil)
    (pss_one (ps_ret (pe_lc (own := [("at", 7)]) rfl sc_unknown_faults.nd (pi_list (pv 6)) (blkOk_by (N := nn_unknown_faults) (sc := d_unknown_faults.scope) (by decide +kernel)) (fun _ _ _ _ _ => (pg_name (i := 7) sc_unknown_faults.nd rfl (.inl rfl))) (fun _ _ _ _ _ => pts_nil) (fun _ _ _ _ _ => (pe_tup (pa_cons pe_str (pa_cons (pe_op catT (pv 0) (pe_tup (pa_cons (pv 7) pa_nil))) pa_nil))))))))))), ?_⟩
  obtain ⟨b, us, rfl, hb, h0, hws⟩ := Rp.prt hv
  refine ⟨_, rfl, b, _, 0, _, rfl, rfl, hb, h0, ?_⟩
  refine ⟨_, rfl, by show 0 ≤ sizeLine; decide, fun t ht => ?_⟩
  have s1 : Same H (upd H t (.tup [])) := same_upd ht
  obtain ⟨r, hrr, al, har, hsq⟩ := (tab_tapes T p).get (t := t) (H := upd H t (.tup [])) upd_same
  generalize upd H t (.tup []) = H1 at s1 hsq ⊢
  refine ⟨_, r, rfl, hrr, al, har, ⟨_, hsq _ (.refl _)⟩, fun D hD => ?_⟩
  refine lc_none walk_tup hD (fun H' s2 => hsq _ (same_tk s2)) (fun i x H2 H3 hi s2 hy C k => ?_) fun H2 s2 hD2 => ?_
  · obtain ⟨rfl, hx⟩ := hy
    rw [List.getElem?_map] at hx
    obtain ⟨n, e1, rfl⟩ := Option.map_eq_some_iff.mp hx
    obtain ⟨z, e2, e3⟩ := Prt.tat_ok hown hok n (List.mem_of_getElem? e1)
    refine ⟨rfl, _, rfl, _, rfl, b, _, n, _, rfl, rfl, s2 _ _ (s1 _ _ hb), hws _ _ e2, _, rfl, z, l1, ts, rfl, rfl, s2 _ _ (s1 _ _ h1), _, rfl, ?_⟩
    rw [decide_eq_true e3]
    exact k _ _ (.refl _)
  have s3 := s1.trans s2
  refine ⟨_, rfl, .inl ⟨rfl, _, .of hD2⟩, _, rfl, by show 0 ≤ sizeLine; decide, fun t ht => ?_⟩
  have s4 : Same H2 (upd H2 t (.tup [])) := same_upd ht
  obtain ⟨r2, hrr2, al2, har2, hsq2⟩ := (tab_idx T p).get (t := t) (H := upd H2 t (.tup [])) upd_same
  generalize upd H2 t (.tup []) = H3 at s4 hsq2 ⊢
  have hD3 := s4 _ _ hD2
  have s5 := s3.trans s4
  refine ⟨_, r2, rfl, hrr2, al2, har2, ⟨_, hsq2 _ (.refl _)⟩, fun D2 hD20 => ?_⟩
  refine lc_none walk_tup hD20 (fun H' s2 => hsq2 _ (same_tk s2)) (fun i x H4 H5 hi s6 hy C k => ?_) fun H4 s6 hD4 => ?_
  · obtain ⟨rfl, hx⟩ := hy
    rw [List.getElem?_map] at hx
    obtain ⟨n, e1, rfl⟩ := Option.map_eq_some_iff.mp hx
    obtain ⟨z, e2, e3⟩ := Prt.iat_ok hok n (List.mem_of_getElem? e1)
    refine ⟨rfl, _, rfl, _, rfl, b, _, n, _, rfl, rfl, s6 _ _ (s5 _ _ hb), hws _ _ e2, _, rfl, z, l2, is, rfl, rfl, s6 _ _ (s5 _ _ h2), _, rfl, ?_⟩
    rw [decide_eq_true e3]
    exact k _ _ (.refl _)
  have s7 := s5.trans s6
  refine ⟨D, D2, [], [], rfl, rfl, s6 _ _ hD3, hD4, by show 0 ≤ sizeLine; decide, ?_⟩
  have s8 : Same H (upd H4 D (.lst ([] ++ []))) := Same.up s7 (Same.newL s1 hD)
  have hD5 : (upd H4 D (.lst ([] ++ []))) D = some (.lst []) := upd_same
  generalize upd H4 D (.lst ([] ++ [])) = H5 at s8 hD5 ⊢
  have last : ∀ σ : L2.St, True := fun _ => trivial
  refine ⟨_, rfl, rfl, _, rfl, ?_⟩
  by_cases hw : p.word = "do"
  · obtain ⟨z, e2, e3⟩ := Prt.go_ok hok hw
    refine iteDt (by rw [hw]) ⟨_, rfl, b, _, 1, _, rfl, rfl, s8 _ _ hb, hws _ _ e2, _, rfl, z, l3, ps, rfl, rfl, s8 _ _ h3, _, rfl, ?_⟩
    rw [decide_eq_true e3]
    refine iteF ⟨_, rfl, D, rfl, ⟨_, .of hD5⟩, fun D3 hD3' => ?_⟩
    exact lc_map (walk_list (xs := [])) hD3' (Nat.zero_le _) (fun H' s9 => .of (s9 _ _ hD5)) (fun _ _ _ => True) (fun _ _ _ _ _ _ => trivial) (fun i x H6 H7 hi => absurd hi (Nat.not_lt_zero _)) fun ys H6 hn s9 hD6 _ => q D3 H6 (s8.trans s9) (Same.newL s8 hD3') (by rw [hD6, List.length_eq_zero_iff.mp hn])
  · refine iteDf (vs_ne hw) ⟨_, rfl, D, rfl, ⟨_, .of hD5⟩, fun D3 hD3' => ?_⟩
    exact lc_map (walk_list (xs := [])) hD3' (Nat.zero_le _) (fun H' s9 => .of (s9 _ _ hD5)) (fun _ _ _ => True) (fun _ _ _ _ _ _ => trivial) (fun i x H6 H7 hi => absurd hi (Nat.not_lt_zero _)) fun ys H6 hn s9 hD6 _ => q D3 H6 (s8.trans s9) (Same.newL s8 hD3') (by rw [hD6, List.length_eq_zero_iff.mp hn])
end
end NP
/-! NPFault2 -/
namespace NP
open PySem PySem.Spec PyProof.Rows L2 TL
def GoodT (H : Hp) (b : Pl) (ys : List V) : Prop := ∀ y ∈ ys, ∃ (t : Tst) (u : V), t.base = b ∧ Pth H 4000 y u ∧ Rp H t.enc u
theorem GoodT.tk {H H' : Hp} (k : TK H H') {b : Pl} {ys : List V} (h : GoodT H b ys) : GoodT H' b ys := fun y hy =>
  let ⟨t, u, h1, h2, h3⟩ := h y hy
  ⟨t, u, h1, h2.tk k, h3.tk k⟩
def GoodP (H : Hp) (Pr : Prt → Prop) (ys : List V) : Prop := ∀ y ∈ ys, ∃ (p : Prt) (u : V), Pr p ∧ Pth H 4000 y u ∧ Rp H p.enc u
theorem GoodP.tk {H H' : Hp} (k : TK H H') {Pr : Prt → Prop} {ys : List V} (h : GoodP H Pr ys) : GoodP H' Pr ys := fun y hy =>
  let ⟨t, u, h1, h2, h3⟩ := h y hy
  ⟨t, u, h1, h2.tk k, h3.tk k⟩
theorem Rp.tst {H : Hp} {t : Tst} {v : V} (h : Rp H t.enc v) : ∃ (q : Addr) (us : List V), v = .ref q ∧ H q = some (.tup (.str t.word :: us)) ∧ (∀ t2, t = .no t2 → ∃ u, us = [u] ∧ Rp H t2.enc u) := by
  cases t with
  | pl p =>
    obtain ⟨a, rfl, ha⟩ := Rp.ws h
    rw [p.ws_eq] at ha
    exact ⟨a, _, rfl, ha, fun t2 e => by cases e⟩
  | no t =>
    obtain ⟨a, u, rfl, ha, hr⟩ := Rp.no h
    exact ⟨a, _, rfl, ha, fun t2 e => by cases e; exact ⟨u, rfl, hr⟩⟩
theorem Tst.word_no {t : Tst} (h : t.word = "not") : ∃ t2, t = .no t2 := by
  cases t with
  | no t => exact ⟨t, rfl⟩
  | pl p => exact absurd h (by cases p <;> simp only [Tst.word, Pl.word] <;> decide +kernel)
section
variable {P : Program} {w : World} {K : PySem.W.Frag} {mg : Str → Option Value} {base : Heap}
def sp_tests_in : Sp := fun vs H Q _ => ∃ (t : Tst) (b : Addr) (v : V) (ps : List V), vs = [v, .ref b] ∧ Rp H t.enc v ∧ H b = some (.tup ps) ∧ ps.length ≤ 3000 ∧ t.nots ≤ 3 ∧ ∀ l ys H', Same H H' → H l = none → H' l = some (.lst ys) → GoodT H' t.base ys → ys.length ≤ 4 → Q (.ref l) H'
abbrev nn_tests_in : List Str := ["test", "path", "found"]
theorem sc_tests_in : FnScope nn_tests_in ["test", "path"] d_tests_in.scope := ⟨rfl, rfl, rfl, by decide +kernel, rfl, by decide +kernel, by decide +kernel⟩
theorem ok_tests_in (T : Top w K mg) : OK P w K mg base 1 "tests_in" ["test", "path"] sp_tests_in := by
  refine Has.ok (d := d_tests_in) (T.has 55 54 rfl rfl rfl rfl rfl) sc_tests_in (fun _ _ _ _ _ _ us hl => match us, hl with | [_, _], _ => rfl) (by rintro _ _ _ _ ⟨_, _, _, _, rfl, _⟩; rfl) (fun f cdv A outer s H vs Q E hRm h => ?_)
  obtain ⟨t, b, v, ps, rfl, hv, hb, hp, hn, q⟩ := h
  refine ⟨_, (pss_cons (ps_set (i := 2) sc_tests_in.nd rfl (.inl rfl) (pe_lst (pa_cons (pe_tup (pa_cons (pv 1) (pa_cons (pv 0) pa_nil))) pa_nil)))
    (pss_cons (ps_while PassesOwn.never (pt_cmpR op_eq (pe_ix ixT (pv 0) pe_int (fun _ _ => rfl)) pe_str (nomark _)) (pss_cons (ps_par (i := 1) (j := 0) rfl sc_tests_in.nd rfl rfl (by decide) rfl rfl (pa_cons (pe_op catT (pv 1) (pe_tup (pa_cons pe_int pa_nil))) (pa_cons (pe_ix ixT (pv 0) pe_int (fun _ _ => rfl)) pa_nil)) (by rfl))
    (pss_one (ps_expr (pe_bm PySem.F.plainAttrs_list PySem.F.slot_list_append PySem.F.type_list_append mt_append (pv 2) (pa_cons (pe_tup (pa_cons (pv 1) (pa_cons (pv 0) pa_nil))) pa_nil))))))
    (pss_one (ps_ret (pv 2))))), ?_⟩
  have big : 10000 ≤ sizeLine := by decide
  refine ⟨_, rfl, _, rfl, by show 2 ≤ sizeLine; decide, fun c hc => ⟨by show 1 ≤ sizeLine; decide, fun F hF => ?_⟩⟩
  have s1 : Same H (upd (upd H c (.tup [.ref b, v])) F (.lst [.ref c])) := (same_upd hc).trans (same_upd hF)
  have hFH : H F = none := Same.newL (same_upd hc) hF
  have hg : GoodT (upd (upd H c (.tup [.ref b, v])) F (.lst [.ref c])) t.base [.ref c] := fun y hy => by
    rw [List.mem_singleton.mp hy]
    exact ⟨t, v, rfl, ⟨c, b, ps, rfl, same_upd hF _ _ upd_same, s1 _ _ hb, by omega⟩, hv.same s1⟩
  have hF1 : (upd (upd H c (.tup [.ref b, v])) F (.lst [.ref c])) F = some (.lst [.ref c]) := upd_same
  generalize upd (upd H c (.tup [.ref b, v])) F (.lst [.ref c]) = H1 at s1 hg hF1 ⊢
  refine ⟨fun m σ H' => Same H H' ∧ ∃ (t' : Tst) (u : V) (b' : Addr) (ps' ys : List V), σ = [some u, some (.ref b'), some (.ref F)] ∧ Rp H' t'.enc u ∧ H' b' = some (.tup ps') ∧ ps'.length + m ≤ 3010 ∧ H' F = some (.lst ys) ∧ GoodT H' t.base ys ∧ t'.nots = m ∧ t'.base = t.base ∧ ys.length + m ≤ 4,
    ⟨_, s1, t, v, b, ps, [.ref c], rfl, hv.same s1, s1 _ _ hb, by omega, hF1, hg, rfl, rfl, by show 1 + t.nots ≤ 4; omega⟩, fun m σ H2 hpv => ?_⟩
  obtain ⟨s2, t', u, b', ps', ys, rfl, hu, hb', hpl, hF2, hg2, hm, hbs, hyl⟩ := hpv
  obtain ⟨qa, us, rfl, hqa, hno⟩ := Rp.tst hu
  refine ⟨_, rfl, qa, _, 0, _, rfl, rfl, hqa, rfl, rfl, _, rfl, ?_⟩
  by_cases hw : t'.word = "not"
  · obtain ⟨t2, e⟩ := Tst.word_no hw
    subst e
    obtain ⟨u2, e, hu2⟩ := hno t2 rfl
    subst e
    have hm' : t2.nots + 1 = m := hm
    refine iteDt (by rw [hw]) ⟨_, fun _ _ h => h, ?_⟩
    refine ⟨_, rfl, by show 1 ≤ sizeLine; decide, fun t3 ht3 => ?_⟩
    have s3 : Same H2 (upd H2 t3 (.tup [.int 1])) := same_upd ht3
    refine ⟨b', t3, ps', _, rfl, rfl, s3 _ _ hb', upd_same, by simp; omega, fun pn H3 s4 hpn => ?_⟩
    have s5 : Same H2 H3 := s3.trans s4
    refine ⟨_, rfl, qa, _, 1, _, rfl, rfl, s5 _ _ hqa, rfl, _, _, rfl, ?_⟩
    have hF3 := s5 _ _ hF2
    refine ⟨_, rfl, .inl ⟨rfl, _, .of hF3⟩, _, rfl, _, rfl, by show 2 ≤ sizeLine; decide, fun t4 ht4 => ?_⟩
    have s6 : Same H2 (upd H3 t4 (.tup [.ref pn, u2])) := s5.trans (same_upd ht4)
    have hF4 := same_upd (o := .tup [.ref pn, u2]) ht4 _ _ hF3
    have hpn4 := same_upd (o := .tup [.ref pn, u2]) ht4 _ _ hpn
    have hc4 : (upd H3 t4 (.tup [.ref pn, u2])) t4 = some (.tup [.ref pn, u2]) := upd_same
    generalize upd H3 t4 (.tup [.ref pn, u2]) = H4 at s6 hF4 hpn4 hc4 ⊢
    refine ⟨F, ys, _, rfl, rfl, hF4, by omega, ?_⟩
    have tkF : TK H4 (upd H4 F (.lst (ys ++ [.ref t4]))) := tk_upd fun q z => by rw [hF4] at z; cases z
    have tkA := (same_tk s6).trans tkF
    have hpl2 : (ps' ++ [V.int 1]).length = ps'.length + 1 := by simp
    refine ⟨t2.nots, by omega, Same.up (s2.trans s6) hFH, t2, u2, pn, _, ys ++ [.ref t4], rfl, hu2.tk tkA, tkF _ _ hpn4, by omega, upd_same, fun y hy => ?_, rfl, hbs, by simp; omega⟩
    rcases List.mem_append.mp hy with hy | hy
    · exact (hg2.tk tkA) y hy
    · rw [List.mem_singleton.mp hy]
      exact ⟨t2, u2, hbs, ⟨t4, pn, _, rfl, tkF _ _ hc4, tkF _ _ hpn4, by omega⟩, hu2.tk tkA⟩
  · exact iteDf (vs_ne hw) ⟨_, rfl, q F ys H2 s2 hFH hF2 hg2 (by omega)⟩
/-- sound parts with these names -/
def Oks (ts own is ps : List Str) (p : Prt) : Prop := p.ok ts own is ps
theorem Cmd.ok_inner {ts own is ps : List Str} {c : Cmd} (h : c.ok ts own is ps) : ∀ d ∈ c.inner, d.ok ts own is ps := by
  cases c with
  | si s => intro d hd; cases hd
  | re p cs => exact oks_all.mp h.2
  | if_ t cs os =>
    intro d hd
    exact (List.mem_append.mp hd).elim (oks_all.mp h.2.1 d) (oks_all.mp h.2.2 d)
def sp_named_parts : Sp := fun vs H Q _ => ∃ (cs : List Cmd) (a b : Addr) (xs ps : List V) (ts own is pp : List Str), vs = [.ref a, .ref b] ∧ H a = some (.tup xs) ∧ RpL H (encs cs) xs ∧ H b = some (.tup ps) ∧ ps.length ≤ 10 ∧ cnts cs ≤ 900 ∧ oks ts own is pp cs ∧
  ∀ l ys H', Same H H' → H l = none → H' l = some (.lst ys) → GoodP H' (Oks ts own is pp) ys → Q (.ref l) H'
abbrev nn_named_parts : List Str := ["commands", "path", "found", "place", "command"]
theorem sc_named_parts : FnScope nn_named_parts ["commands", "path"] d_named_parts.scope := ⟨rfl, rfl, rfl, by decide +kernel, rfl, by decide +kernel, by decide +kernel⟩
theorem ok_named_parts (T : Top w K mg) : OK P w K mg base 3 "named_parts" ["commands", "path"] sp_named_parts := by
  refine Has.ok (d := d_named_parts) (T.has 57 59 rfl rfl rfl rfl rfl) sc_named_parts (fun _ _ _ _ _ _ us hl => match us, hl with | [_, _], _ => rfl) (by rintro _ _ _ _ ⟨_, _, _, _, _, _, _, _, _, rfl, _⟩; rfl) (fun f cdv A outer s H vs Q E hRm h => ?_)
  obtain ⟨cs, a, b, xs, ps, ts, own, is, pp, rfl, ha, hr, hb, hp, hc, hok, q⟩ := h
  refine ⟨_, (pss_cons (ps_set (i := 2) sc_named_parts.nd rfl (.inl rfl) (pe_lst pa_nil))
    (pss_cons (ps_for PassesOwn.never rfl (pi_list (pe_c (ok_commands_in T) (hRm.mono (by decide)) (by rfl) (pa_cons (pv 0) (pa_cons (pv 1) pa_nil)))) (pg_tup rfl (pgs_cons (pg_name (i := 3) sc_named_parts.nd rfl (.inl rfl) (.inr rfl)) (pgs_cons (pg_name (i := 4) sc_named_parts.nd rfl (.inl rfl) (.inr rfl)) pgs_nil))) (pss_cons (ps_expr (pe_bm PySem.F.plainAttrs_list PySem.F.slot_list_append PySem.F.type_list_append mt_append (pv 2) (pa_cons (pe_tup (pa_cons (pv 3) (pa_cons (pv 4) pa_nil))) pa_nil)))
    (pss_one (ps_if (pt_cmpR op_eq (pe_ix ixT (pv 4) pe_int (fun _ _ => rfl)) pe_str (nomark _)) (pss_one (ps_expr (pe_bm PySem.F.plainAttrs_list PySem.F.slot_list_extend PySem.F.type_list_extend mt_extend (pv 2) (pa_cons (pe_c (ok_tests_in T) (hRm.mono (by decide)) (by rfl) (pa_cons (pe_ix ixT (pv 4) pe_int (fun _ _ => rfl)) (pa_cons (pe_op catT (pv 3) (pe_tup (pa_cons pe_int pa_nil))) pa_nil))) pa_nil)))) pss_nil))))
    (pss_one (ps_ret (pv 2))))), ?_⟩
  have big : 10000 ≤ sizeLine := by decide
  refine ⟨by show 0 ≤ sizeLine; decide, fun F hF => ?_⟩
  have s0 : Same H (upd H F (.lst [])) := same_upd hF
  have hF0 : (upd H F (.lst [])) F = some (.lst []) := upd_same
  generalize upd H F (.lst []) = H0 at s0 hF0 ⊢
  refine ⟨_, rfl, _, rfl, cs, a, b, xs, ps, fun c => c.ok ts own is pp, rfl, s0 _ _ ha, hr.same s0, s0 _ _ hb, hp, hc, fun c h d hd => Cmd.ok_inner h d hd, oks_all.mp hok, fun L zs H1 s1 hL hL1 hg hzl => ⟨L, rfl, ⟨_, .of hL1⟩, ?_⟩⟩
  have hF1 := s1 _ _ hF0
  have hLF : L ≠ F := Ne.symm (ne_of_none hF0 hL)
  refine for_it walk_list (fun i σ H' => Same H H' ∧ TK H1 H' ∧ ∃ (o3 o4 : Option V) (ys : List V), σ = [some (.ref a), some (.ref b), some (.ref F), o3, o4] ∧ H' F = some (.lst ys) ∧ H' L = some (.lst zs) ∧ GoodP H' (Oks ts own is pp) ys ∧ ys.length ≤ 5 * i) ?_ (fun i σ H' _ hp => .of (let ⟨_, _, _, _, _, _, _, h, _⟩ := hp; h)) (fun i x σ H2 H3 hi hp2 hy => ?_) (fun σ H2 hp2 => ?_)
  · exact ⟨s0.trans s1, .refl _, none, none, [], rfl, hF1, hL1, fun y hy => (by cases hy), Nat.zero_le _⟩
  · obtain ⟨s2, k2, o3, o4, ys, rfl, hF2, hL2, hgp, hyl⟩ := hp2
    obtain ⟨rfl, hx⟩ := hy
    obtain ⟨c, hcok, hcc, u, ⟨p1, d1, pl, rfl, hp1, hd1, hpl⟩, hu⟩ := hg x (List.mem_of_getElem? hx)
    have hu2 := hu.tk k2
    refine ⟨p1, _, rfl, .of (k2 _ _ hp1), rfl, _, _, rfl, _, _, rfl, rfl, ?_⟩
    refine ⟨_, rfl, .inl ⟨rfl, _, .of hF2⟩, _, rfl, _, rfl, by show 2 ≤ sizeLine; decide, fun t4 ht4 => ?_⟩
    have s6 : Same H3 (upd H3 t4 (.tup [.ref d1, u])) := same_upd ht4
    have hF4 := s6 _ _ hF2
    have hL4 := s6 _ _ hL2
    have hc4 : (upd H3 t4 (.tup [.ref d1, u])) t4 = some (.tup [.ref d1, u]) := upd_same
    generalize upd H3 t4 (.tup [.ref d1, u]) = H4 at s6 hF4 hL4 hc4 ⊢
    refine ⟨F, ys, _, rfl, rfl, hF4, by omega, ?_⟩
    have tkF : TK H4 (upd H4 F (.lst (ys ++ [.ref t4]))) := tk_upd fun q z => by rw [hF4] at z; cases z
    have tkA : TK H3 (upd H4 F (.lst (ys ++ [.ref t4]))) := (same_tk s6).trans tkF
    have hu5 := hu2.tk tkA
    have hd5 := tkA _ _ (k2 _ _ hd1)
    have hg5 : GoodP (upd H4 F (.lst (ys ++ [.ref t4]))) (Oks ts own is pp) (ys ++ [.ref t4]) := fun y hy => by
      rcases List.mem_append.mp hy with hy | hy
      · exact (hgp.tk tkA) y hy
      · rw [List.mem_singleton.mp hy]
        exact ⟨.cm c, u, hcok, ⟨t4, d1, pl, rfl, tkF _ _ hc4, hd5, by omega⟩, hu5⟩
    have hF5 : (upd H4 F (.lst (ys ++ [.ref t4]))) F = some (.lst (ys ++ [.ref t4])) := upd_same
    have hL5 : (upd H4 F (.lst (ys ++ [.ref t4]))) L = some (.lst zs) := by rw [upd_ne hLF]; exact hL4
    have s7 : Same H (upd H4 F (.lst (ys ++ [.ref t4]))) := Same.up (s2.trans s6) hF
    have k7 := k2.trans tkA
    generalize upd H4 F (.lst (ys ++ [.ref t4])) = H5 at hu5 hd5 hg5 hF5 hL5 s7 k7 ⊢
    obtain ⟨qa, us, rfl, hqa, hls⟩ := Rp.cmd hu5
    refine ⟨_, rfl, qa, _, 0, _, rfl, rfl, hqa, rfl, rfl, _, rfl, ?_⟩
    by_cases hw : c.word = "if"
    · cases c with
      | si s => exact absurd hw s.notif.1
      | re p cs => exact absurd hw (show ("repeat" : Str) ≠ "if" by decide +kernel)
      | if_ t cs2 os =>
        obtain ⟨qa', ut, b2, c2, xs2, ys2, eq, hqa', hut, hb2, hr2, hc2, hrc⟩ := Rp.ifc hu5
        cases eq
        rw [hqa] at hqa'
        have eus : us = [ut, .ref b2, .ref c2] := by injection hqa' with z; injection z with z; exact (List.cons.inj z).2
        subst eus
        refine iteDt (by rw [hw]) ?_
        refine ⟨_, rfl, .inl ⟨rfl, _, .of hF5⟩, _, rfl, qa, _, 1, _, rfl, rfl, hqa, rfl, _, rfl, by show 1 ≤ sizeLine; decide, fun t6 ht6 => ?_⟩
        have s8 : Same H5 (upd H5 t6 (.tup [.int 1])) := same_upd ht6
        refine ⟨d1, t6, pl, _, rfl, rfl, s8 _ _ hd5, upd_same, by simp; omega, fun pn H6 s9 hpn => ?_⟩
        have s10 : Same H5 H6 := s8.trans s9
        refine ⟨t, pn, ut, _, rfl, hut.same s10, hpn, by simp; omega, hcok.1.2, fun M ms H7 s11 hM hM7 hgm hml => ?_⟩
        have s12 : Same H5 H7 := s10.trans s11
        have hF7 := s12 _ _ hF5
        refine ⟨F, M, _, ms, rfl, rfl, hF7, hM7, by simp; omega, ?_⟩
        have tkG : TK H7 (upd H7 F (.lst (ys ++ [.ref t4] ++ ms))) := tk_upd fun q z => by rw [hF7] at z; cases z
        have tkH := (same_tk s12).trans tkG
        refine ⟨Same.up (s7.trans s12) hF, k7.trans tkH, some (.ref d1), some (.ref qa), _, rfl, upd_same, by rw [upd_ne hLF]; exact s12 _ _ hL5, fun y hy => ?_, by simp; omega⟩
        rcases List.mem_append.mp hy with hy | hy
        · exact (hg5.tk tkH) y hy
        · obtain ⟨t', u', hb', hp', hr'⟩ := (hgm.tk tkG) y hy
          exact ⟨.tt t', u', by show t'.base.ok ts is; rw [hb']; exact hcok.1.1, hp', hr'⟩
    · refine iteDf (vs_ne hw) ⟨s7, k7, some (.ref d1), some (.ref qa), _, rfl, hF5, hL5, hg5, by simp; omega⟩
  · obtain ⟨s2, k2, o3, o4, ys, rfl, hF2, hL2, hgp, hyl⟩ := hp2
    exact ⟨_, rfl, q F ys _ s2 hF hF2 hgp⟩
end
end NP
/-! NPFault3 -/
namespace NP
open PySem PySem.Spec PyProof.Rows L2 TL
theorem procsOk_get {ts own is : List Str} : ∀ {ps : List Str} {rs : List (Str × List Cmd)} {i : Nat} {r : Str × List Cmd}, procsOk ts own is ps rs → rs[i]? = some r → oks ts own is (ps ++ (rs.take i).map (·.1)) r.2
  | ps, (n, cs) :: rs, 0, r, h, e => by
    cases e
    rw [List.take_zero, List.map_nil, List.append_nil]
    exact h.2.2.1
  | ps, (n, cs) :: rs, i + 1, r, h, e => by
    have := procsOk_get (i := i) h.2.2.2 e
    rw [List.take_succ_cons, List.map_cons]
    rwa [List.append_assoc] at this
theorem procsOk_nodup {ts own is : List Str} : ∀ {ps : List Str} {rs : List (Str × List Cmd)}, procsOk ts own is ps rs → ps.Nodup → (ps ++ rs.map (·.1)).Nodup
  | ps, [], _, h => by rw [List.map_nil, List.append_nil]; exact h
  | ps, (n, cs) :: rs, h, hn => by
    have h1 : (ps ++ [n]).Nodup := by
      rw [List.nodup_append]
      exact ⟨hn, by simp, fun a ha b hb e => h.2.1 (by rw [List.mem_singleton.mp hb] at e; rw [← e]; exact ha)⟩
    have := procsOk_nodup h.2.2.2 h1
    rwa [List.append_assoc] at this
/-- a section of declarations: each a tuple with its name ahead -/
structure Sec (H : Hp) (b : Addr) (ns : List Str) : Prop where
  ex : ∃ xs : List V, H b = some (.tup xs) ∧ xs.length = ns.length ∧ ∀ (i : Nat) (x : V), xs[i]? = some x → ∃ (q : Addr) (us : List V) (n : Str), ns[i]? = some n ∧ x = .ref q ∧ H q = some (.tup (.str n :: us))
theorem Sec.same {H H' : Hp} (k : TK H H') {b : Addr} {ns : List Str} (h : Sec H b ns) : Sec H' b ns := by
  obtain ⟨xs, h1, h2, h3⟩ := h.ex
  exact ⟨xs, k _ _ h1, h2, fun i x hx => let ⟨q, us, n, a, b, c⟩ := h3 i x hx; ⟨q, us, n, a, b, k _ _ c⟩⟩
theorem secH {H : Hp} {b : Addr} {xs : List V} {hs : List (Str × Poly)} (hb : H b = some (.tup xs)) (r : RpL H (hs.map encH) xs) : Sec H b (hs.map (·.1)) := by
  refine ⟨xs, hb, by rw [RpL.len r, List.length_map, List.length_map], fun i x hx => ?_⟩
  obtain ⟨d, h1, h2⟩ := RpL.at_ r hx
  rw [List.getElem?_map] at h1
  obtain ⟨h, h3, rfl⟩ := Option.map_eq_some_iff.mp h1
  obtain ⟨a, u, e, ha, _⟩ := Rp.head2 h2
  exact ⟨a, [u], h.1, by rw [List.getElem?_map, h3]; rfl, e, ha⟩
theorem secR {H : Hp} {b : Addr} {xs : List V} {hs : List (Str × List Cmd)} (hb : H b = some (.tup xs)) (r : RpL H (hs.map encR) xs) : Sec H b (hs.map (·.1)) := by
  refine ⟨xs, hb, by rw [RpL.len r, List.length_map, List.length_map], fun i x hx => ?_⟩
  obtain ⟨d, h1, h2⟩ := RpL.at_ r hx
  rw [List.getElem?_map] at h1
  obtain ⟨h, h3, rfl⟩ := Option.map_eq_some_iff.mp h1
  obtain ⟨a, u, us, e, ha, _⟩ := Rp.proc h2
  exact ⟨a, [.ref u], h.1, by rw [List.getElem?_map, h3]; rfl, e, ha⟩
section
variable {P : Program} {w : World} {K : PySem.W.Frag} {mg : Str → Option Value} {base : Heap}
def sp_twice_faults : Sp := fun vs H Q _ => ∃ (a b c d : Addr) (n0 n1 n2 : List Str), vs = [.ref a] ∧ H a = some (.tup [.ref b, .ref c, .ref d]) ∧ Sec H b n0 ∧ Sec H c n1 ∧ Sec H d n2 ∧ (("input" : Str) :: n0).Nodup ∧ n1.Nodup ∧ n2.Nodup ∧
  n0.length ≤ 100 ∧ n1.length ≤ 100 ∧ n2.length ≤ 100 ∧ ∀ l H', Same H H' → H l = none → H' l = some (.lst []) → Q (.ref l) H'
abbrev nn_twice_faults : List Str := ["script", "found", "sort", "earlier", "at", "declared"]
theorem sc_twice_faults : FnScope nn_twice_faults ["script"] d_twice_faults.scope := ⟨rfl, rfl, rfl, by decide +kernel, rfl, by decide +kernel, by decide +kernel⟩
theorem ok_twice_faults (T : Top w K mg) : OK P w K mg base 1 "twice_faults" ["script"] sp_twice_faults := by
  refine Has.ok (d := d_twice_faults) (T.has 56 58 rfl rfl rfl rfl rfl) sc_twice_faults (fun _ _ _ _ _ _ us hl => match us, hl with | [_], _ => rfl) (by rintro _ _ _ _ ⟨_, _, _, _, _, _, _, rfl, _⟩; rfl) (fun f cdv A outer s H vs Q E hRm h => ?_)
  obtain ⟨a, b, c, d, n0, n1, n2, rfl, ha, hb, hc, hd, hn0, hn1, hn2, hl0, hl1, hl2, q⟩ := h
  refine ⟨_, (pss_cons (ps_set (i := 1) sc_twice_faults.nd rfl (.inl rfl) (pe_lst pa_nil))
    (pss_cons (ps_for PassesOwn.never rfl (pi_range1 (by rfl) (T.free 99) (pa_cons (pe_gi (T.int 89) rfl) pa_nil)) (pg_name (i := 2) sc_twice_faults.nd rfl (.inl rfl)) (pss_cons (ps_set (i := 3) sc_twice_faults.nd rfl (.inl rfl) (pe_ifExp (pt_cmpR op_eq (pv 2) pe_int (nomark _)) (pe_lst (pa_cons (pe_gs (T.str 88) rfl) pa_nil)) (pe_lst pa_nil)))
    (pss_one (ps_for PassesOwn.never rfl (pi_enumT (by rfl) (T.free 96) (pa_cons (pe_ix ixT (pv 0) (pv 2) (fun _ _ => rfl)) pa_nil)) (pg_tup rfl (pgs_cons (pg_name (i := 4) sc_twice_faults.nd rfl (.inl rfl) (.inr rfl)) (pgs_cons (pg_name (i := 5) sc_twice_faults.nd rfl (.inl rfl) (.inr rfl)) pgs_nil))) (pss_cons (ps_if (pt_cmpR inLs (pe_ix ixT (pv 5) pe_int (fun _ _ => rfl)) (pv 3) (by rfl)) (pss_one (ps_expr (pe_bm PySem.F.plainAttrs_list PySem.F.slot_list_append PySem.F.type_list_append mt_append (pv 1) (pa_cons (pe_tup (pa_cons pe_str (pa_cons (pe_tup (pa_cons (pv 2) (pa_cons (pv 4) (pa_cons pe_int pa_nil)))) pa_nil))) pa_nil)))) pss_nil)
    (pss_one (ps_expr (pe_bm PySem.F.plainAttrs_list PySem.F.slot_list_append PySem.F.type_list_append mt_append (pv 3) (pa_cons (pe_ix ixT (pv 5) pe_int (fun _ _ => rfl)) pa_nil)))))))))
    (pss_one (ps_ret (pv 1))))), ?_⟩
  have big : 10000 ≤ sizeLine := by decide
  refine ⟨by show 0 ≤ sizeLine; decide, fun F hF => ?_⟩
  have s0 : Same H (upd H F (.lst [])) := same_upd hF
  have hF0 : (upd H F (.lst [])) F = some (.lst []) := upd_same
  generalize upd H F (.lst []) = H0 at s0 hF0 ⊢
  refine ⟨3, rfl, by decide, by decide, ?_⟩
  refine for_it (walk_range (lo := 0) (n := 3)) (fun i σ H' => Same H H' ∧ ∃ (o2 o3 o4 o5 : Option V), σ = [some (.ref a), some (.ref F), o2, o3, o4, o5] ∧ H' F = some (.lst [])) ?_ (fun _ _ _ _ _ => trivial) (fun i x σ H1 H2 hi hp hy => ?_) (fun σ H1 hp => ?_)
  · exact ⟨s0, none, none, none, none, rfl, hF0⟩
  · obtain ⟨s1, o2, o3, o4, o5, rfl, hF1⟩ := hp
    obtain ⟨rfl, rfl⟩ := hy
    have hsec : ∃ (e : Addr) (ns : List Str), ([V.ref b, .ref c, .ref d] : List V)[i]? = some (.ref e) ∧ Sec H e ns ∧ ((if i = 0 then [("input" : Str)] else []) ++ ns).Nodup ∧ ns.length ≤ 100 := by
      match i, hi with
      | 0, _ => exact ⟨b, n0, rfl, hb, hn0, hl0⟩
      | 1, _ => exact ⟨c, n1, rfl, hc, hn1, hl1⟩
      | 2, _ => exact ⟨d, n2, rfl, hd, hn2, hl2⟩
    obtain ⟨e, ns, he, hse, hnd, hln⟩ := hsec
    refine ⟨_, rfl, rfl, _, rfl, ?_⟩
    by_cases hz : i = 0
    · rw [if_pos hz] at hnd
      have pre_eq : ([("input" : Str)]).length ≤ 1 := Nat.le_refl _
      obtain ⟨pre, hpe, hpre⟩ : ∃ pre : List Str, [("input" : Str)] = pre ∧ pre.length ≤ 1 := ⟨_, rfl, pre_eq⟩
      refine iteDt (by rw [hz]; rfl) ⟨by show 1 ≤ sizeLine; decide, fun E hE => ?_⟩
      rw [show upd H2 E (.lst [V.str "input"]) = upd H2 E (.lst (pre.map V.str)) by rw [← hpe]; rfl]
      rw [hpe] at hnd
      have sE : Same H (upd H2 E (.lst (pre.map V.str))) := s1.trans (same_upd hE)
      have hEH : H E = none := Same.newL s1 hE
      have hEF : E ≠ F := Ne.symm (ne_of_none hF1 hE)
      have hE3 : (upd H2 E (.lst (pre.map V.str))) E = some (.lst ((pre ++ ns.take 0).map V.str)) := by rw [List.take_zero, List.append_nil]; exact upd_same
      have hF3 := same_upd (o := .lst (pre.map V.str)) hE _ _ hF1
      generalize upd H2 E (.lst (pre.map V.str)) = H3 at sE hE3 hF3 ⊢
      obtain ⟨xs, hx1, hx2, hx3⟩ := (hse.same (same_tk sE)).ex
      refine ⟨_, rfl, _, rfl, a, _, i, _, rfl, by show V.int (0 + (i : Nat)) = V.int (i : Nat); rw [Int.zero_add], sE _ _ ha, he, e, xs, rfl, .of hx1, ?_⟩
      have hxH : H e = some (.tup xs) := by
        obtain ⟨xs', h1, _⟩ := hse.ex
        have h2 := sE _ _ h1
        rw [hx1] at h2
        rw [h1]
        exact h2.symm
      refine for_it walk_enumT (fun j σ H' => Same H H' ∧ TK H3 H' ∧ ∃ (o4 o5 : Option V), σ = [some (.ref a), some (.ref F), some (.int (0 + (i : Nat))), some (.ref E), o4, o5] ∧ H' F = some (.lst []) ∧ H' E = some (.lst ((pre ++ ns.take j).map V.str))) ?_ (fun j σ H' _ hp => .of (hp.2.1 _ _ hx1)) (fun j x σ H4 H5 hj hp hy => ?_) (fun σ H4 hp => ?_)
      · exact ⟨sE, .refl _, _, _, rfl, hF3, hE3⟩
      · obtain ⟨s4, k4, o4, o5, rfl, hF4, hE4⟩ := hp
        obtain ⟨t, y1, y2, rfl, ht, rfl, h1, h2⟩ := hy
        have h1 : V.int (0 + (j : Nat)) = y1 := Option.some.inj h1
        subst h1
        obtain ⟨qa, us, n, hn, rfl, hqa⟩ := hx3 j y2 h2
        have s5 : Same H4 (upd H4 t (.tup [.int (0 + (j : Nat)), .ref qa])) := same_upd ht
        have hF5 := s5 _ _ hF4
        have hE5 := s5 _ _ hE4
        have hq5 := s5 _ _ (k4 _ _ hqa)
        refine ⟨t, _, rfl, .of upd_same, rfl, _, _, rfl, _, _, rfl, rfl, ?_⟩
        generalize upd H4 t (.tup [.int (0 + (j : Nat)), .ref qa]) = H6 at s5 hF5 hE5 hq5 ⊢
        have hnot : n ∉ pre ++ ns.take j := by
          intro hm
          have hnd2 : (pre ++ ns).Nodup := hnd
          rcases List.mem_append.mp hm with hm | hm
          · exact (List.nodup_append.mp hnd2).2.2 n hm n (List.mem_of_getElem? hn) rfl
          · obtain ⟨k, hk, e⟩ := List.mem_take_iff_getElem.mp hm
            have h5 := (List.nodup_append.mp hnd2).2.1
            obtain ⟨hj2, e2⟩ := List.getElem?_eq_some_iff.mp hn
            have hk' : k < j := by omega
            exact (List.pairwise_iff_getElem.mp h5 k j (by omega) hj2 hk') (by rw [e, e2])
        refine ⟨_, rfl, qa, _, 0, _, rfl, rfl, hq5, rfl, _, rfl, n, E, _, rfl, rfl, hE5, _, rfl, ?_⟩
        rw [decide_eq_false hnot]
        refine iteF ?_
        refine ⟨_, rfl, .inl ⟨rfl, _, .of hE5⟩, _, rfl, qa, _, 0, _, rfl, rfl, hq5, rfl, E, _, _, rfl, rfl, hE5, by simp only [List.length_map, List.length_append, List.length_take]; have : pre.length ≤ 1 := hpre; omega, ?_⟩
        have tkE : TK H6 (upd H6 E (.lst ((pre ++ ns.take j).map V.str ++ [.str n]))) := tk_upd fun q z => by rw [hE5] at z; cases z
        refine ⟨Same.up (s4.trans s5) hEH, (k4.trans (same_tk s5)).trans tkE, _, _, rfl, by rw [upd_ne (Ne.symm hEF)]; exact hF5, ?_⟩
        rw [List.take_add_one, hn, ← List.append_assoc]
        show _ = some (HO.lst ((pre ++ ns.take j ++ [n]).map V.str))
        rw [List.map_append (l₁ := pre ++ ns.take j)]
        exact upd_same
      · obtain ⟨s4, k4, o4, o5, rfl, hF4, hE4⟩ := hp
        exact ⟨s4, _, _, _, _, rfl, hF4⟩
    · rw [if_neg hz] at hnd
      obtain ⟨pre, hpe, hpre⟩ : ∃ pre : List Str, ([] : List Str) = pre ∧ pre.length ≤ 1 := ⟨_, rfl, Nat.zero_le _⟩
      refine iteDf (vi_ne (by omega)) ⟨by show 0 ≤ sizeLine; decide, fun E hE => ?_⟩
      rw [show upd H2 E (.lst []) = upd H2 E (.lst (pre.map V.str)) by rw [← hpe]; rfl]
      rw [hpe] at hnd
      have sE : Same H (upd H2 E (.lst (pre.map V.str))) := s1.trans (same_upd hE)
      have hEH : H E = none := Same.newL s1 hE
      have hEF : E ≠ F := Ne.symm (ne_of_none hF1 hE)
      have hE3 : (upd H2 E (.lst (pre.map V.str))) E = some (.lst ((pre ++ ns.take 0).map V.str)) := by rw [List.take_zero, List.append_nil]; exact upd_same
      have hF3 := same_upd (o := .lst (pre.map V.str)) hE _ _ hF1
      generalize upd H2 E (.lst (pre.map V.str)) = H3 at sE hE3 hF3 ⊢
      obtain ⟨xs, hx1, hx2, hx3⟩ := (hse.same (same_tk sE)).ex
      refine ⟨_, rfl, _, rfl, a, _, i, _, rfl, by show V.int (0 + (i : Nat)) = V.int (i : Nat); rw [Int.zero_add], sE _ _ ha, he, e, xs, rfl, .of hx1, ?_⟩
      have hxH : H e = some (.tup xs) := by
        obtain ⟨xs', h1, _⟩ := hse.ex
        have h2 := sE _ _ h1
        rw [hx1] at h2
        rw [h1]
        exact h2.symm
      refine for_it walk_enumT (fun j σ H' => Same H H' ∧ TK H3 H' ∧ ∃ (o4 o5 : Option V), σ = [some (.ref a), some (.ref F), some (.int (0 + (i : Nat))), some (.ref E), o4, o5] ∧ H' F = some (.lst []) ∧ H' E = some (.lst ((pre ++ ns.take j).map V.str))) ?_ (fun j σ H' _ hp => .of (hp.2.1 _ _ hx1)) (fun j x σ H4 H5 hj hp hy => ?_) (fun σ H4 hp => ?_)
      · exact ⟨sE, .refl _, _, _, rfl, hF3, hE3⟩
      · obtain ⟨s4, k4, o4, o5, rfl, hF4, hE4⟩ := hp
        obtain ⟨t, y1, y2, rfl, ht, rfl, h1, h2⟩ := hy
        have h1 : V.int (0 + (j : Nat)) = y1 := Option.some.inj h1
        subst h1
        obtain ⟨qa, us, n, hn, rfl, hqa⟩ := hx3 j y2 h2
        have s5 : Same H4 (upd H4 t (.tup [.int (0 + (j : Nat)), .ref qa])) := same_upd ht
        have hF5 := s5 _ _ hF4
        have hE5 := s5 _ _ hE4
        have hq5 := s5 _ _ (k4 _ _ hqa)
        refine ⟨t, _, rfl, .of upd_same, rfl, _, _, rfl, _, _, rfl, rfl, ?_⟩
        generalize upd H4 t (.tup [.int (0 + (j : Nat)), .ref qa]) = H6 at s5 hF5 hE5 hq5 ⊢
        have hnot : n ∉ pre ++ ns.take j := by
          intro hm
          have hnd2 : (pre ++ ns).Nodup := hnd
          rcases List.mem_append.mp hm with hm | hm
          · exact (List.nodup_append.mp hnd2).2.2 n hm n (List.mem_of_getElem? hn) rfl
          · obtain ⟨k, hk, e⟩ := List.mem_take_iff_getElem.mp hm
            have h5 := (List.nodup_append.mp hnd2).2.1
            obtain ⟨hj2, e2⟩ := List.getElem?_eq_some_iff.mp hn
            have hk' : k < j := by omega
            exact (List.pairwise_iff_getElem.mp h5 k j (by omega) hj2 hk') (by rw [e, e2])
        refine ⟨_, rfl, qa, _, 0, _, rfl, rfl, hq5, rfl, _, rfl, n, E, _, rfl, rfl, hE5, _, rfl, ?_⟩
        rw [decide_eq_false hnot]
        refine iteF ?_
        refine ⟨_, rfl, .inl ⟨rfl, _, .of hE5⟩, _, rfl, qa, _, 0, _, rfl, rfl, hq5, rfl, E, _, _, rfl, rfl, hE5, by simp only [List.length_map, List.length_append, List.length_take]; have : pre.length ≤ 1 := hpre; omega, ?_⟩
        have tkE : TK H6 (upd H6 E (.lst ((pre ++ ns.take j).map V.str ++ [.str n]))) := tk_upd fun q z => by rw [hE5] at z; cases z
        refine ⟨Same.up (s4.trans s5) hEH, (k4.trans (same_tk s5)).trans tkE, _, _, rfl, by rw [upd_ne (Ne.symm hEF)]; exact hF5, ?_⟩
        rw [List.take_add_one, hn, ← List.append_assoc]
        show _ = some (HO.lst ((pre ++ ns.take j ++ [n]).map V.str))
        rw [List.map_append (l₁ := pre ++ ns.take j)]
        exact upd_same
      · obtain ⟨s4, k4, o4, o5, rfl, hF4, hE4⟩ := hp
        exact ⟨s4, _, _, _, _, rfl, hF4⟩
  · obtain ⟨s1, o2, o3, o4, o5, rfl, hF1⟩ := hp
    exact ⟨_, rfl, q F _ s1 hF hF1⟩
end
end NP
/-! NPFault4 -/
namespace NP
open PySem PySem.Spec PyProof.Rows L2 TL
theorem pool_input : ("input" : Str) ∉ pool := by decide +kernel
section
variable {P : Program} {w : World} {K : PySem.W.Frag} {mg : Str → Option Value} {base : Heap}
def sp_all_faults : Sp := fun vs H Q _ => ∃ (s : Scr) (v : V), vs = [v] ∧ Rp H s.enc v ∧ s.ok ∧ ∀ l H', Same H H' → H l = none → H' l = some (.lst []) → Q (.ref l) H'
abbrev nn_all_faults : List Str := ["script", "found", "tapes", "tape", "indexes", "index", "earlier", "at", "procedure", "path", "part"]
theorem sc_all_faults : FnScope nn_all_faults ["script"] d_all_faults.scope := ⟨rfl, rfl, rfl, by decide +kernel, rfl, by decide +kernel, by decide +kernel⟩
theorem ok_all_faults (T : Top w K mg) : OK P w K mg base 4 "all_faults" ["script"] sp_all_faults := by
  refine Has.ok (d := d_all_faults) (T.has 60 62 rfl rfl rfl rfl rfl) sc_all_faults (fun _ _ _ _ _ _ us hl => match us, hl with | [_], _ => rfl) (by rintro _ _ _ _ ⟨_, _, rfl, _⟩; rfl) (fun f cdv A outer s H vs Q E hRm h => ?_)
  obtain ⟨t, v, rfl, hv, hok, q⟩ := h
  refine ⟨_, (pss_cons (ps_set (i := 1) sc_all_faults.nd rfl (.inl rfl) (pe_c (ok_twice_faults T) (hRm.mono (by decide)) (by rfl) (pa_cons (pv 0) pa_nil)))
    (pss_cons (ps_set (i := 2) sc_all_faults.nd rfl (.inl rfl) (pe_op op_cat (pe_lst (pa_cons (pe_gs (T.str 88) rfl) pa_nil)) (pe_lc (own := [("tape", 3)]) rfl sc_all_faults.nd (pi_tup (pe_ix ixT (pv 0) pe_int (fun _ _ => rfl))) (blkOk_by (N := nn_all_faults) (sc := d_all_faults.scope) (by decide +kernel)) (fun _ _ _ _ _ => (pg_name (i := 3) sc_all_faults.nd rfl (.inl rfl))) (fun _ _ _ _ _ => pts_nil) (fun _ _ _ _ _ => (pe_ix ixT (pv 3) pe_int (fun _ _ => rfl))))))
    (pss_cons (ps_setLc (i := 4) (own := [("index", 5)]) rfl sc_all_faults.nd rfl rfl (sw_true rfl rfl rfl (by decide +kernel)) (pi_tup (pe_ix ixT (pv 0) pe_int (fun _ _ => rfl))) (blkOk_by (N := nn_all_faults) (sc := d_all_faults.scope) (by decide +kernel)) (fun _ _ _ _ _ => (pg_name (i := 5) sc_all_faults.nd rfl (.inl rfl))) (fun _ _ _ _ _ => pts_nil) (fun _ _ _ _ _ => (pe_ix ixT (pv 5) pe_int (fun _ _ => rfl))))
    (pss_cons (ps_set (i := 6) sc_all_faults.nd rfl (.inl rfl) (pe_lst pa_nil))
    (pss_cons (ps_for PassesOwn.never rfl (pi_enumT (by rfl) (T.free 96) (pa_cons (pe_ix ixT (pv 0) (pe_gi (T.int 90) rfl) (fun _ _ => rfl)) pa_nil)) (pg_tup rfl (pgs_cons (pg_name (i := 7) sc_all_faults.nd rfl (.inl rfl) (.inr rfl)) (pgs_cons (pg_name (i := 8) sc_all_faults.nd rfl (.inl rfl) (.inr rfl)) pgs_nil))) (pss_cons (ps_for PassesOwn.never rfl (pi_list (pe_c (ok_named_parts T) (hRm.mono (by decide)) (by rfl) (pa_cons (pe_ix ixT (pv 8) pe_int (fun _ _ => rfl)) (pa_cons (pe_tup (pa_cons (pe_gi (T.int 90) rfl) (pa_cons (pv 7) (pa_cons pe_int pa_nil)))) pa_nil)))) (pg_tup rfl (pgs_cons (pg_name (i := 9) sc_all_faults.nd rfl (.inl rfl) (.inr rfl)) (pgs_cons (pg_name (i := 10) sc_all_faults.nd rfl (.inl rfl) (.inr rfl)) pgs_nil))) (pss_cons (ps_expr (pe_bm PySem.F.plainAttrs_list PySem.F.slot_list_extend PySem.F.type_list_extend mt_extend (pv 1) (pa_cons (pe_c (ok_unknown_faults T) (hRm.mono (by decide)) (by rfl) (pa_cons (pv 9) (pa_cons (pv 10) (pa_cons (pv 2) (pa_cons (pv 4) (pa_cons (pv 6) pa_nil)))))) pa_nil)))
    (pss_one (ps_expr (pe_bm PySem.F.plainAttrs_list PySem.F.slot_list_extend PySem.F.type_list_extend mt_extend (pv 1) (pa_cons (pe_c (ok_input_faults T) (hRm.mono (by decide)) (by rfl) (pa_cons (pv 9) (pa_cons (pv 10) pa_nil))) pa_nil))))))
    (pss_one (ps_expr (pe_bm PySem.F.plainAttrs_list PySem.F.slot_list_append PySem.F.type_list_append mt_append (pv 6) (pa_cons (pe_ix ixT (pv 8) pe_int (fun _ _ => rfl)) pa_nil))))))
    (pss_one (ps_ret (pv 1)))))))), ?_⟩
  have big : 10000 ≤ sizeLine := by decide
  obtain ⟨a, b, c, d, xs, ys, zs, rfl, ha, hb, hrb, hc, hrc, hd, hrd⟩ := Rp.scr hv
  have f1 := hok.tl
  have f2 := hok.il
  have f3 := hok.pl
  have sb := secH hb hrb
  have sc := secH hc hrc
  have sd := secR hd hrd
  have hin : ∀ z ∈ t.tapes.map (·.1), z ≠ ("input" : Str) := fun z hz e => by
    obtain ⟨h, hh, rfl⟩ := List.mem_map.mp hz
    exact pool_input (e ▸ (hok.tp h hh).1)
  refine ⟨_, rfl, a, b, c, d, t.tapes.map (·.1), t.idx.map (·.1), t.procs.map (·.1), rfl, ha, sb, sc, sd, ?_, hok.inn, ?_, by simp; omega, by simp; omega, by simp; omega, fun F H1 s1 hF hF1 => ?_⟩
  · exact List.nodup_cons.mpr ⟨fun hm => hin _ hm rfl, hok.tn⟩
  · have := procsOk_nodup hok.pr List.nodup_nil
    simpa using this
  -- tapes
  refine ⟨by show 1 ≤ sizeLine; decide, fun B hB => ?_⟩
  have s2 : Same H (upd H1 B (.lst [.str "input"])) := s1.trans (same_upd hB)
  have hB2 : (upd H1 B (.lst [.str "input"])) B = some (.lst [.str "input"]) := upd_same
  have hF2 := same_upd (o := .lst [.str "input"]) hB _ _ hF1
  generalize upd H1 B (.lst [.str "input"]) = H2 at s2 hB2 hF2 ⊢
  refine ⟨_, rfl, a, _, 0, _, rfl, rfl, s2 _ _ ha, rfl, b, rfl, ⟨xs, .of (s2 _ _ hb)⟩, fun D hD => ?_⟩
  obtain ⟨xs', hx1, hx2, hx3⟩ := sb.ex
  have exs : xs' = xs := by rw [hb] at hx1; injection hx1 with z; injection z with z; exact z.symm
  subst exs
  rw [List.length_map] at hx2
  refine lc_map walk_tup hD (by omega) (fun H' s3 => .of (s3 _ _ (s2 _ _ hb))) (fun i y _ => ∃ n, (t.tapes.map (·.1))[i]? = some n ∧ y = .str n) (fun _ _ _ _ h _ => h) (fun i x H3 H4 hi s3 hy C k => ?_) fun ys1 H3 hn s3 hD3 hr3 => ?_
  · obtain ⟨rfl, hx⟩ := hy
    obtain ⟨qa, us, n, hn, rfl, hqa⟩ := hx3 i x hx
    exact ⟨rfl, _, rfl, qa, _, 0, _, rfl, rfl, s3 _ _ (s2 _ _ hqa), rfl, k _ _ (.refl _) ⟨n, hn, rfl⟩⟩
  have g1 : ys1 = (t.tapes.map (·.1)).map V.str := by
    refine List.ext_getElem? fun i => ?_
    by_cases hi : i < ys1.length
    · obtain ⟨h, hq, e⟩ := hr3 i ys1[i] (List.getElem?_eq_getElem hi)
      rw [List.getElem?_eq_getElem hi, List.getElem?_map, hq, e]
      rfl
    · rw [List.getElem?_eq_none (by omega), List.getElem?_eq_none (by simp; omega)]
  refine ⟨B, D, _, _, rfl, rfl, s3 _ _ hB2, hD3, by simp; omega, fun L1 hL1 => ?_⟩
  have s4 : Same H (upd H3 L1 (.lst ([.str "input"] ++ ys1))) := (s2.trans s3).trans (same_upd hL1)
  have hT4 : (upd H3 L1 (.lst ([.str "input"] ++ ys1))) L1 = some (.lst ((("input" : Str) :: t.tapes.map (·.1)).map V.str)) := by
    rw [g1]
    exact upd_same
  have hF4 := same_upd (o := .lst ([.str "input"] ++ ys1)) hL1 _ _ (s3 _ _ hF2)
  generalize upd H3 L1 (.lst ([.str "input"] ++ ys1)) = H4 at s4 hT4 hF4 ⊢
  -- indexes
  refine ⟨_, rfl, a, _, 1, _, rfl, rfl, s4 _ _ ha, rfl, c, rfl, ⟨ys, .of (s4 _ _ hc)⟩, fun L2' hL2 => ?_⟩
  obtain ⟨ys', hy1, hy2, hy3⟩ := sc.ex
  have eys : ys' = ys := by rw [hc] at hy1; injection hy1 with z; injection z with z; exact z.symm
  subst eys
  rw [List.length_map] at hy2
  refine lc_map walk_tup hL2 (by omega) (fun H' s5 => .of (s5 _ _ (s4 _ _ hc))) (fun i y _ => ∃ n, (t.idx.map (·.1))[i]? = some n ∧ y = .str n) (fun _ _ _ _ h _ => h) (fun i x H5 H6 hi s5 hy C k => ?_) fun ys2 H5 hn2 s5 hD5 hr5 => ?_
  · obtain ⟨rfl, hx⟩ := hy
    obtain ⟨qa, us, n, hn, rfl, hqa⟩ := hy3 i x hx
    exact ⟨rfl, _, rfl, qa, _, 0, _, rfl, rfl, s5 _ _ (s4 _ _ hqa), rfl, k _ _ (.refl _) ⟨n, hn, rfl⟩⟩
  have g2 : ys2 = (t.idx.map (·.1)).map V.str := by
    refine List.ext_getElem? fun i => ?_
    by_cases hi : i < ys2.length
    · obtain ⟨h, hq, e⟩ := hr5 i ys2[i] (List.getElem?_eq_getElem hi)
      rw [List.getElem?_eq_getElem hi, List.getElem?_map, hq, e]
      rfl
    · rw [List.getElem?_eq_none (by omega), List.getElem?_eq_none (by simp; omega)]
  rw [g2] at hD5
  have hT5 := s5 _ _ hT4
  have hF5 := s5 _ _ hF4
  have s6 := s4.trans s5
  -- earlier
  refine ⟨by show 0 ≤ sizeLine; decide, fun E hE => ?_⟩
  have s7 : Same H (upd H5 E (.lst [])) := s6.trans (same_upd hE)
  have hE7 : (upd H5 E (.lst [])) E = some (.lst ((([] : List Str)).map V.str)) := upd_same
  have hT7 := same_upd (o := .lst []) hE _ _ hT5
  have hI7 := same_upd (o := .lst []) hE _ _ hD5
  have hF7 := same_upd (o := .lst []) hE _ _ hF5
  have hEH : H E = none := Same.newL s6 hE
  have nET : E ≠ L1 := Ne.symm (ne_of_none hT5 hE)
  have nEI : E ≠ L2' := Ne.symm (ne_of_none hD5 hE)
  have nEF : E ≠ F := Ne.symm (ne_of_none hF5 hE)
  have nFT : F ≠ L1 := ne_of_none (s3 _ _ hF2) hL1
  have nFI : F ≠ L2' := ne_of_none hF4 hL2
  generalize upd H5 E (.lst []) = H7 at s7 hE7 hT7 hI7 hF7 ⊢
  have hzl := RpL.len hrd
  rw [List.length_map] at hzl
  refine ⟨_, rfl, a, _, 2, _, rfl, rfl, s7 _ _ ha, rfl, d, zs, rfl, .of (s7 _ _ hd), ?_⟩
  refine for_it walk_enumT (fun i σ H' => Same H H' ∧ ∃ (o3 o5 o7 o8 o9 o10 : Option V), σ = [some (.ref a), some (.ref F), some (.ref L1), o3, some (.ref L2'), o5, some (.ref E), o7, o8, o9, o10] ∧ H' F = some (.lst []) ∧ H' L1 = some (.lst ((("input" : Str) :: t.tapes.map (·.1)).map V.str)) ∧ H' L2' = some (.lst ((t.idx.map (·.1)).map V.str)) ∧
    H' E = some (.lst (((t.procs.take i).map (·.1)).map V.str))) ?_ (fun i σ H' _ hp => .of (hp.1 _ _ hd)) (fun i x σ H8 H9 hi hp hy => ?_) (fun σ H8 hp => ?_)
  · exact ⟨s7, _, _, _, _, _, _, rfl, hF7, hT7, hI7, hE7⟩
  · obtain ⟨s8, o3, o5, o7, o8, o9, o10, rfl, hF8, hT8, hI8, hE8⟩ := hp
    obtain ⟨tt, y1, y2, rfl, htt, rfl, h1, h2⟩ := hy
    have h1 : V.int (0 + (i : Nat)) = y1 := Option.some.inj h1
    subst h1
    obtain ⟨dd, e1, e2⟩ := RpL.at_ hrd h2
    rw [List.getElem?_map] at e1
    obtain ⟨r, e3, rfl⟩ := Option.map_eq_some_iff.mp e1
    obtain ⟨pa, pb, us, rfl, hpa, hpb, hpr⟩ := Rp.proc e2
    have hoks := procsOk_get hok.pr e3
    rw [List.nil_append] at hoks
    have hcnt : cnts r.2 ≤ 900 := by
      have h1 := hok.cl
      have : ∀ {rs : List (Str × List Cmd)} {r : Str × List Cmd}, r ∈ rs → cnts r.2 ≤ pcnt rs := by
        intro rs
        induction rs with
        | nil => intro r h; cases h
        | cons x rs ih =>
          intro r h
          show cnts r.2 ≤ cnts x.2 + pcnt rs
          rcases List.mem_cons.mp h with e | h
          · rw [e]; exact Nat.le_add_right _ _
          · have := ih h
            omega
      have := this (List.mem_of_getElem? e3)
      omega
    have s9 : Same H8 (upd H8 tt (.tup [.int (0 + (i : Nat)), .ref pa])) := same_upd htt
    refine ⟨tt, _, rfl, .of upd_same, rfl, _, _, rfl, _, _, rfl, rfl, ?_⟩
    have hF9 := s9 _ _ hF8
    have hT9 := s9 _ _ hT8
    have hI9 := s9 _ _ hI8
    have hE9 := s9 _ _ hE8
    have s10 := s8.trans s9
    generalize upd H8 tt (.tup [.int (0 + (i : Nat)), .ref pa]) = H10 at s10 hF9 hT9 hI9 hE9 ⊢
    refine ⟨_, rfl, pa, _, 1, _, rfl, rfl, s10 _ _ hpa, rfl, _, rfl, by show 3 ≤ sizeLine; decide, fun t3 ht3 => ?_⟩
    have s11 : Same H10 (upd H10 t3 (.tup [.int 2, .int (0 + (i : Nat)), .int 1])) := same_upd ht3
    have ht4 : (upd H10 t3 (.tup [.int 2, .int (0 + (i : Nat)), .int 1])) t3 = some (.tup [.int 2, .int (0 + (i : Nat)), .int 1]) := upd_same
    have hF10 := s11 _ _ hF9
    have hT10 := s11 _ _ hT9
    have hI10 := s11 _ _ hI9
    have hE10 := s11 _ _ hE9
    have s12 := s10.trans s11
    generalize upd H10 t3 (.tup [.int 2, .int (0 + (i : Nat)), .int 1]) = H11 at s12 ht4 hF10 hT10 hI10 hE10 ⊢
    refine ⟨r.2, pb, t3, us, _, _, _, _, _, rfl, s12 _ _ hpb, hpr.same s12, ht4, by show 3 ≤ 10; decide, hcnt, hoks, fun L ls H12 s13 hL hL12 hg => ⟨L, rfl, ⟨_, .of hL12⟩, ?_⟩⟩
    have hF12 := s13 _ _ hF10
    have hT12 := s13 _ _ hT10
    have hI12 := s13 _ _ hI10
    have hE12 := s13 _ _ hE10
    have s14 := s12.trans s13
    refine for_it walk_list (fun j σ H' => Same H H' ∧ SameX [F] H12 H' ∧ TK H12 H' ∧ ∃ (o3 o5 o7 o8 o9 o10 : Option V), σ = [some (.ref a), some (.ref F), some (.ref L1), o3, some (.ref L2'), o5, some (.ref E), o7, some (.ref pa), o9, o10] ∧ H' F = some (.lst [])) ?_ (fun j σ H' _ hp => .of (hp.2.1 _ _ hL12 (by
      intro hm
      have := List.mem_singleton.mp hm
      exact ne_of_none hF10 hL this.symm))) (fun j x σ H13 H14 hj hp hy => ?_) (fun σ H13 hp => ?_)
    · exact ⟨s14, .refl _ _, .refl _, _, _, _, none, _, _, rfl, hF12⟩
    · obtain ⟨s15, x15, k15, o3, o5, o7, o8, o9, o10, rfl, hF13⟩ := hp
      obtain ⟨rfl, hx⟩ := hy
      obtain ⟨p, u, hpo, ⟨p1, d1, pl, rfl, hp1, hd1, hpl⟩, hu⟩ := hg x (List.mem_of_getElem? hx)
      have hT13 := x15 _ _ hT12 (by simp; exact Ne.symm nFT)
      have hI13 := x15 _ _ hI12 (by simp; exact Ne.symm nFI)
      have hE13 := x15 _ _ hE12 (by simp; exact nEF)
      refine ⟨p1, _, rfl, .of (k15 _ _ hp1), rfl, _, _, rfl, _, _, rfl, rfl, ?_⟩
      refine ⟨_, rfl, .inl ⟨rfl, _, .of hF13⟩, _, rfl, _, rfl, _, rfl, _, rfl, _, rfl, p, d1, L1, L2', E, u, _, _, _, _, rfl, hu.tk k15, hpo, fun z hz => List.mem_cons_of_mem _ hz, hT13, hI13, hE13, fun M H15 s16 hM hM15 => ?_⟩
      have hF15 := s16 _ _ hF13
      refine ⟨F, M, [], [], rfl, rfl, hF15, hM15, by show 0 ≤ sizeLine; decide, ?_⟩
      have tkF : TK H15 (upd H15 F (.lst ([] ++ []))) := tk_upd fun q z => by rw [hF15] at z; cases z
      have hF16 : (upd H15 F (.lst ([] ++ []))) F = some (.lst []) := upd_same
      have s17 : Same H (upd H15 F (.lst ([] ++ []))) := Same.up (s15.trans s16) hF
      have x17 : SameX [F] H12 (upd H15 F (.lst ([] ++ []))) := (x15.trans (same_x s16 _)).trans (samex_upd (by simp))
      have k17 := (k15.trans (same_tk s16)).trans tkF
      generalize upd H15 F (.lst ([] ++ [])) = H16 at hF16 s17 x17 k17 ⊢
      refine ⟨_, rfl, .inl ⟨rfl, _, .of hF16⟩, _, rfl, _, rfl, p, d1, u, _, _, _, _, rfl, hu.tk k17, hpo, fun z hz => hin z hz, fun M2 H17 s18 hM2 hM17 => ?_⟩
      have hF17 := s18 _ _ hF16
      refine ⟨F, M2, [], [], rfl, rfl, hF17, hM17, by show 0 ≤ sizeLine; decide, ?_⟩
      have tkF2 : TK H17 (upd H17 F (.lst ([] ++ []))) := tk_upd fun q z => by rw [hF17] at z; cases z
      exact ⟨Same.up (s17.trans s18) hF, (x17.trans (same_x s18 _)).trans (samex_upd (by simp)), (k17.trans (same_tk s18)).trans tkF2, _, _, _, none, _, _, rfl, upd_same⟩
    · obtain ⟨s15, x15, k15, o3, o5, o7, o8, o9, o10, rfl, hF13⟩ := hp
      have hT13 := x15 _ _ hT12 (by simp; exact Ne.symm nFT)
      have hI13 := x15 _ _ hI12 (by simp; exact Ne.symm nFI)
      have hE13 := x15 _ _ hE12 (by simp; exact nEF)
      have s16 := s15
      refine ⟨_, rfl, .inl ⟨rfl, _, .of hE13⟩, _, rfl, pa, _, 0, _, rfl, rfl, s16 _ _ hpa, rfl, E, _, _, rfl, rfl, hE13, by simp only [List.length_map, List.length_take]; omega, ?_⟩
      refine ⟨Same.up s16 hEH, _, _, _, _, _, _, rfl, by rw [upd_ne (Ne.symm nEF)]; exact hF13, by rw [upd_ne (Ne.symm nET)]; exact hT13, by rw [upd_ne (Ne.symm nEI)]; exact hI13, ?_⟩
      rw [List.take_add_one, e3]
      show _ = some (HO.lst (((t.procs.take i ++ [r]).map (·.1)).map V.str))
      rw [List.map_append, List.map_append]
      exact upd_same
  · obtain ⟨s8, o3, o5, o7, o8, o9, o10, rfl, hF8, _⟩ := hp
    exact ⟨_, rfl, q F _ s8 hF hF8⟩
def sp_is_program_value : Sp := fun vs H Q _ => ∃ (s : Scr) (v : V), vs = [v] ∧ Rp H s.enc v ∧ s.ok ∧ ∀ H', Same H H' → Q (.bl true) H'
abbrev nn_is_program_value : List Str := ["thing"]
theorem sc_is_program_value : FnScope nn_is_program_value ["thing"] d_is_program_value.scope := ⟨rfl, rfl, rfl, by decide +kernel, rfl, by decide +kernel, by decide +kernel⟩
theorem ok_is_program_value (T : Top w K mg) : OK P w K mg base 11 "is_program_value" ["thing"] sp_is_program_value := by
  refine Has.ok (d := d_is_program_value) (T.has 61 63 rfl rfl rfl rfl rfl) sc_is_program_value (fun _ _ _ _ _ _ us hl => match us, hl with | [_], _ => rfl) (by rintro _ _ _ _ ⟨_, _, rfl, _⟩; rfl) (fun f cdv A outer s H vs Q E hRm h => ?_)
  obtain ⟨t, v, rfl, hv, hok, q⟩ := h
  refine ⟨_, (pss_one (ps_ret (pe_and (pe_c (ok_is_script_value T) (hRm.mono (by decide)) (by rfl) (pa_cons (pv 0) pa_nil)) (pe_one (pe_cmpR (op_eqNilL hRm.units0) (pe_c (ok_all_faults T) (hRm.mono (by decide)) (by rfl) (pa_cons (pv 0) pa_nil)) (pe_lst pa_nil) (nomark _)))))), ?_⟩
  refine ⟨_, rfl, t, v, rfl, hv, hok.fit, fun H1 s1 => ⟨true, rfl, iteT ?_⟩⟩
  refine ⟨_, rfl, t, v, rfl, hv.same s1, hok, fun l H2 s2 hl hl2 => ⟨by show 0 ≤ sizeLine; decide, fun e he => ?_⟩⟩
  have s3 : Same H2 (upd H2 e (.lst [])) := same_upd he
  exact ⟨l, e, [], rfl, rfl, .of (s3 _ _ hl2), .of upd_same, q _ ((s1.trans s2).trans s3)⟩
def sp_is_program : Sp := sp_is_program_value
abbrev nn_is_program : List Str := ["thing"]
theorem sc_is_program : FnScope nn_is_program ["thing"] d_is_program.scope := ⟨rfl, rfl, rfl, by decide +kernel, rfl, by decide +kernel, by decide +kernel⟩
theorem ok_is_program (T : Top w K mg) : OK P w K mg base 12 "is_program" ["thing"] sp_is_program := by
  refine Has.ok (d := d_is_program) (T.has 62 64 rfl rfl rfl rfl rfl) sc_is_program (fun _ _ _ _ _ _ us hl => match us, hl with | [_], _ => rfl) (by rintro _ _ _ _ ⟨_, _, rfl, _⟩; rfl) (fun f cdv A outer s H vs Q E hRm h => ?_)
  obtain ⟨t, v, rfl, hv, hok, q⟩ := h
  refine ⟨_, (pss_one (ps_ret (pe_c (ok_is_program_value T) (hRm.mono (by decide)) (by rfl) (pa_cons (pv 0) pa_nil)))), ?_⟩
  exact ⟨_, rfl, t, v, rfl, hv, hok, q⟩
end
end NP
/-! NPLawM -/
namespace NP
open PySem PySem.Spec PyProof.Rows L2 TL
theorem seqS {A B : TS} {k : Ends} {σ : L2.St} {H : Hp} (R : L2.St → Hp → Prop) (hB : ∀ σ' H', R σ' H' → B k σ' H') (hA : (∀ σ' H', R σ' H' → B k σ' H') → tSeq A B k σ H) : tSeq A B k σ H := hA hB
section
variable {P : Program} {w : World} {K : PySem.W.Frag} {mg : Str → Option Value} {base : Heap}
abbrev nn_law : List Str := ["_law_script", "_law_deck_here", "_law_near", "_law_due", "_law_turn", "_law_text_here", "_law_told"]
theorem sc_law : FnScope nn_law ["_law_script"] d_law.scope := ⟨rfl, rfl, rfl, by decide +kernel, rfl, by decide +kernel, by decide +kernel⟩
theorem law_goes (T : Top w K mg) {s : Shared} {H : Hp} {a : Addr} {ns : List Int} (env : Env0 P w K mg base callerA [] s H) (hS : SqL K H a (ns.map V.int)) (hst : ∀ G, Same H G → SqL K G a (ns.map V.int)) (hl : ns.length ≤ 100000) (room : Room 25 callerA) :
    codeAny (model P w) callerA (.call (.ref (He.ga K d_law.name)) ⟨[.ref a], []⟩) (CR CX0 [] P w H s (fun v _ => v = .bl true) fun _ _ _ => False) s := by
  refine Has.once (d := d_law) (T.has 81 83 rfl rfl rfl rfl rfl) sc_law (fun _ _ _ _ _ _ us hl => match us, hl with | [_], _ => rfl) room env (vs := [.ref a]) (.cons rfl .nil) rfl (fun cdv hRm => ?_)
  obtain ⟨fdr, hFr, hmr, hkr, hbr⟩ := okk_read (P := P) (base := base) T
  refine ⟨_, (pss_cons (ps_set (i := 1) sc_law.nd rfl (.inl rfl) (pe_c (ok_law_deck T) (hRm.mono (by decide)) (by rfl) (pa_cons (pv 0) (pa_cons pe_int pa_nil))))
    (pss_cons (ps_set (i := 2) sc_law.nd rfl (.inl rfl) (pe_c (ok_law_drawn_program T) (hRm.mono (by decide)) (by rfl) (pa_cons (pv 1) (pa_cons pe_int (pa_cons pe_int pa_nil)))))
    (pss_cons (ps_set (i := 3) sc_law.nd rfl (.inl rfl) (pe_c (ok_law_text T) (hRm.mono (by decide)) (by rfl) (pa_cons (pv 2) pa_nil)))
    (pss_cons (ps_for PassesOwn.never rfl (pi_range1 (by rfl) (T.free 99) (pa_cons pe_int pa_nil)) (pg_name (i := 4) sc_law.nd rfl (.inl rfl)) (pss_cons (ps_set (i := 5) sc_law.nd rfl (.inl rfl) (pe_c (ok_law_loose_text T) (hRm.mono (by decide)) (by rfl) (pa_cons (pv 1) (pa_cons (pv 2) pa_nil))))
    (pss_cons (ps_set (i := 6) sc_law.nd rfl (.inl rfl) (pe_ifExp (pt_cmpR op_lt (pv 4) pe_int (nomark _)) (pe_c (ok_read T) (hRm.mono (by decide)) (by rfl) (pa_cons (pv 5) pa_nil)) (pe_named hFr (hRm.mono (by decide)) (by rfl) hmr hkr hbr pass0 (pk_cons (pv 5) pk_nil))))
    (pss_one (ps_if (PW.pt (pw_or (pt_cmpR op_ne (pe_callB (call_repr (by rfl) hRm) (by rfl) (T.free 104) (by decide +kernel) (pa_cons (pv 6) pa_nil)) (pe_callB (call_repr (by rfl) hRm) (by rfl) (T.free 104) (by decide +kernel) (pa_cons (pv 2) pa_nil)) (nomark _)) (pw_or (pt_cmpR op_ne (pe_callB (call_repr (by rfl) hRm) (by rfl) (T.free 104) (by decide +kernel) (pa_cons (pe_c (ok_written T) (hRm.mono (by decide)) (by rfl) (pa_cons (pv 6) pa_nil)) pa_nil)) (pe_callB (call_repr (by rfl) hRm) (by rfl) (T.free 104) (by decide +kernel) (pa_cons (pv 3) pa_nil)) (nomark _)) (pw_or1 (pt_cmpR op_notBl (pe_c (ok_is_program T) (hRm.mono (by decide)) (by rfl) (pa_cons (pv 6) pa_nil)) pe_bl (nomark _)))))) (pss_one (ps_ret pe_bl)) pss_nil)))))
    (pss_one (ps_ret pe_bl)))))), ?_⟩
  refine ⟨_, rfl, a, ns, 15365005, rfl, hS, hst, hl, fun d l H1 s1 hd hl1 dk1 => ?_⟩
  refine ⟨_, rfl, d, l, rfl, dk1, fun p v H2 hp hv dk2 => ?_⟩
  have hfit := hp.fit
  have hsm : p.sm := ⟨hfit, by have := hp.cl; omega⟩
  have hsw := (sw_scr hfit hp.tl hp.il hp.pl hp.cl).mono (show 20000 ≤ 100000 by decide) (show 50 ≤ 100 by decide)
  have hlow := low_scr hsm
  have hlen := scr_text_len hsm hp.tl hp.il hp.pl hp.cl
  have isref : ∀ {G : Hp} {u : V}, Rp G p.enc u → ∃ z, u = .ref z := fun h => by
    obtain ⟨z, _, e, _⟩ := h
    exact ⟨z, e⟩
  refine ⟨_, rfl, p, v, rfl, hv, hsm, hp.cl, fun H3 s3 => ?_⟩
  refine ⟨(3 : Int), rfl, by decide, by decide, ?_⟩
  refine for_it (walk_range (lo := 0) (n := 3)) (fun i σ G => ∃ (o4 o5 o6 : Option V), σ = [some (.ref a), some (.ref d), some v, some (.str (scrText p)), o4, o5, o6] ∧ Rp G p.enc v ∧ Deck G d l) ⟨none, none, none, rfl, hv.same s3, dk2.same s3⟩ (fun _ _ _ _ _ => trivial) (fun i x σ G1 G2 hi hp1 hy => ?_) (fun σ G1 hp1 => ?_)
  · obtain ⟨o4, o5, o6, rfl, hv1, dk4⟩ := hp1
    obtain ⟨rfl, rfl⟩ := hy
    refine ⟨_, rfl, _, rfl, d, l, p, v, rfl, dk4, hv1, hfit, hp.tl, hp.il, hp.pl, hp.cl, fun ls H5 hls sx5 tk5 dk5 => ?_⟩
    have hv5 := hv1.tk tk5
    have reads : ∀ (Q : VK), (∀ u H6, Same H5 H6 → Rp H6 p.enc u → Q u H6) → sp_read [.str (textL ls)] H5 Q E0 := fun Q hQ =>
      ⟨ls, p, rfl, hls.ne, by have := hls.len; omega, hls.text_len hfit, fun x hx => by have := hls.ahead x hx; omega, hls.runs hfit, fun u H6 s6 hu => hQ u H6 s6 hu⟩
    dsimp only
    refine seqS (fun σ' G => ∃ u, σ' = [some (.ref a), some (.ref d), some v, some (.str (scrText p)), some (.int (0 + (i : Nat))), some (.str (textL ls)), some u] ∧ Rp G p.enc u ∧ Rp G p.enc v ∧ Deck G d l) (fun σ' G h => ?_) (fun next => ?_)
    · obtain ⟨u, rfl, hu, hv6, dk6⟩ := h
      refine ⟨_, rfl, .inr ⟨p.enc, u, rfl, hu, isref hu, hsw, ?_⟩⟩
      refine ⟨_, rfl, .inr ⟨p.enc, v, rfl, hv6, isref hv6, hsw, ?_⟩⟩
      refine ⟨rfl, _, rfl, iteNf rfl ?_⟩
      refine ⟨_, rfl, p, u, rfl, hu, hsm, fun G2 s2 => .inl ⟨scrText p, rfl, hlow, hlen, ?_⟩⟩
      refine ⟨_, rfl, .inl ⟨scrText p, rfl, hlow, hlen, ?_⟩⟩
      refine ⟨rfl, _, rfl, iteNf rfl ?_⟩
      refine ⟨_, rfl, p, u, rfl, hu.same s2, hp, fun G3 s3 => ?_⟩
      refine ⟨true, true, rfl, rfl, _, rfl, iteNf rfl ?_⟩
      exact ⟨_, _, _, rfl, (hv6.same s2).same s3, (dk6.same s2).same s3⟩
    · refine ⟨_, rfl, _, _, rfl, rfl, _, rfl, ?_⟩
      by_cases h2 : (0 + (i : Int)) < 2
      · refine iteDt h2 ?_
        refine ⟨_, rfl, reads _ fun u H6 s6 hu => ?_⟩
        exact next _ _ ⟨u, rfl, hu, hv5.same s6, dk5.same s6⟩
      · refine iteDf h2 ?_
        refine ⟨_, rfl, reads _ fun u H6 s6 hu => ?_⟩
        exact next _ _ ⟨u, rfl, hu, hv5.same s6, dk5.same s6⟩
  · obtain ⟨o4, o5, o6, rfl, hv1, dk4⟩ := hp1
    exact rfl
end
end NP
/-! NPFin -/
namespace NP
open PySem PySem.Spec PyProof.Rows L2
theorem room25 : Room 25 callerA := ⟨rfl, by decide, by decide⟩
theorem law_end {q : Program} {loose : List Str} {XP : (Str → Option Value) → Heap → Prop} {d : PySem.DefRec} (hd : d.params.defaults = []) (hn : d.name = ("law" : Str)) :
    PySem.W.WalkO q loose XP (fun w h => ∃ K : PySem.W.Frag, K.In h ∧ SaysR w K) (PySem.Challenge.rw_narrowplay_k05_whole_strings_that_are_re).row.toRowW d [] (fun f vs => PySem.call f vs) := by
  refine Att.attach_call (n := 63) rfl hd fun w s₀ s₁ mg mb fa o pm cd doc a vs ns G Y ho hd hcd hmg hobj hints hlen hg => ?_
  obtain ⟨K, KX, c⟩ := Y
  have T : Top w K mg := ⟨⟨s₁.heap, KX, G.T.g⟩, c⟩
  have e : mg ("law" : Str) = some (.ref (He.ga K "law")) := T.glo 83
  rw [hn, e] at hmg
  cases hmg
  have big : 100000 ≤ sizeLine := by decide
  exact law_at KX G.T.g G.T.b G.T.builtins G.T.nolimit hg hobj hints (by omega) fun base H hK hN hS hst env => law_goes T env hS hst (by omega) room25
end NP
open PySem PySem.W PySem.Calls PyProof.Rows
theorem PySem.Challenge.cw_narrowplay_k05_whole_strings_that_are_re_holds : PySem.Challenge.rw_narrowplay_k05_whole_strings_that_are_re.Holds := by
  w_on; o_law
  refine HandSHeadRun.head_any (r := NP.RW) (q := NP.qv) (H := NP.hk) (ob := NP.ob) (M := 12000) (loose := NP.looseAll) (d := HandSHeadRun.topDef NP.RW.prog 101) (kwd := []) NP.ob_eq (by kernel_rfl) (fun s => by kernel_rfl) NP.run (by kernel_rfl) (by kernel_rfl) (by kernel_rfl) (by rfl) (by first | assumption | decide +kernel) (by decide +kernel) ⟨rfl, rfl, rfl, rfl, rfl, by decide +kernel⟩ ?hw ?hc
  case hw => w_witness2
  case hc => exact NP.law_end (by kernel_rfl) (by kernel_rfl)
